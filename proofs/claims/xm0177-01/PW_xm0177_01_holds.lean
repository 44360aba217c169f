import PyProof.Rows.All
import Wide.All
import OpenK.AllK
import Wide.FinOn
import Lean
import PySem.Challenge.RW_xm0177_01
open PySem PySem.W PyProof.Rows
set_option Elab.async false
set_option maxRecDepth 100000
set_option maxHeartbeats 0
set_option rowWalk.seconds 0
set_option linter.unusedVariables false
set_option linter.unusedSimpArgs false
set_option pp.deepTerms false
set_option pp.maxSteps 3000
theorem PySem.W.Fast.tw6063507267725322444 : True := trivial
theorem PySem.W.Fast.tw8075568018651887793 : True := trivial
theorem PySem.W.Fast.tw17992926767131195383 : True := trivial
theorem PySem.W.Fast.tw13532024844435427965 : True := trivial
theorem PySem.W.Fast.tw3435035524344395430 : True := trivial
theorem PySem.W.Fast.tw14979626087600564940 : True := trivial
theorem PySem.W.Fast.tw7932110497407068121 : True := trivial
theorem PySem.W.Fast.tw7511906259402933339 : True := trivial
theorem PySem.W.Fast.tw1010255546594321568 : True := trivial
theorem PySem.W.Fast.tw1594192036040709277 : True := trivial
theorem PySem.W.Fast.tw1309107185065388718 : True := trivial
theorem PySem.W.Fast.tw2874504208813169126 : True := trivial
theorem PySem.W.Fast.tw18267167846245705098 : True := trivial
theorem PySem.W.Fast.tw5556206192530704276 : True := trivial
theorem PySem.W.Fast.tw7505897509792200422 : True := trivial
theorem PySem.W.Fast.tw17111948838632640456 : True := trivial
theorem PySem.W.Fast.tw14350764541406611093 : True := trivial
theorem PySem.W.Fast.tw12695343288047439326 : True := trivial
theorem PySem.W.Fast.tw490728016462700281 : True := trivial
theorem PySem.W.Fast.tw12095823642532355627 : True := trivial
theorem PySem.W.Fast.tw9029142643779711378 : True := trivial
theorem PySem.W.Fast.tw11519604305632133818 : True := trivial
theorem PySem.W.Fast.tw3436264866546951355 : True := trivial
theorem PySem.W.Fast.tw18350638575300117064 : True := trivial
theorem PySem.W.Fast.tw7081425507203772304 : True := trivial
theorem PySem.W.Fast.tw16413963553889246368 : True := trivial
theorem PySem.W.Fast.tw17765544955259793912 : True := trivial
theorem PySem.W.Fast.tw14559557019303687921 : True := trivial
theorem PySem.W.Fast.tw12726346659333912481 : True := trivial
theorem PySem.W.Fast.tw15980859228951719591 : True := trivial
theorem PySem.W.Fast.tw608726401823008365 : True := trivial
theorem PySem.W.Fast.tw8897938508979226211 : True := trivial
theorem PySem.W.Fast.tw13833065179229638619 : True := trivial
theorem PySem.W.Fast.tw8753696776887207221 : True := trivial
theorem PySem.W.Fast.tw4575980220486274672 : True := trivial
theorem PySem.W.Fast.tw10042830170769951172 : True := trivial
theorem PySem.W.Fast.tw8488268690174267210 : True := trivial
theorem PySem.W.Fast.tw2951486255847992690 : True := trivial
theorem PySem.W.Fast.tw12172078356533094185 : True := trivial
theorem PySem.W.Fast.tw4527066259768149269 : True := trivial
theorem PySem.W.Fast.tw3856783459128436802 : True := trivial
theorem PySem.W.Fast.tw6714822604882049554 : True := trivial
theorem PySem.W.Fast.tw9673203406766833760 : True := trivial
theorem PySem.W.Fast.tw8098380416015320538 : True := trivial
theorem PySem.W.Fast.tw17497748084772794779 : True := trivial
theorem PySem.W.Fast.tw11317593695737139937 : True := trivial
theorem PySem.W.Fast.tw3315324234476444515 : True := trivial
theorem PySem.W.Fast.tw6789855027759293466 : True := trivial
theorem PySem.W.Fast.tw16916688483869632129 : True := trivial
theorem PySem.W.Fast.tw2718901123391026995 : True := trivial
theorem PySem.W.Fast.tw151948405760981731 : True := trivial
theorem PySem.W.Fast.tw14210447440969649564 : True := trivial
theorem PySem.W.Fast.tw18410474027866654770 : True := trivial
theorem PySem.W.Fast.tw13776390136698705113 : True := trivial
theorem PySem.W.Fast.tw9300948228871686676 : True := trivial
theorem PySem.W.Fast.tw15112985482279097393 : True := trivial
theorem PySem.W.Fast.tw7365555872484859036 : True := trivial
theorem PySem.W.Fast.tw15263041282635125899 : True := trivial
theorem PySem.W.Fast.tw470574548607681690 : True := trivial
theorem PySem.W.Fast.tw16874561944515371726 : True := trivial
theorem PySem.W.Fast.tw13016732220969518872 : True := trivial
theorem PySem.W.Fast.tw1291980286583624508 : True := trivial
theorem PySem.W.Fast.tw12945451867199242903 : True := trivial
theorem PySem.W.Fast.tw1414301608579184545 : True := trivial
theorem PySem.W.Fast.tw14781814936221603388 : True := trivial
theorem PySem.W.Fast.tw16049961110935095269 : True := trivial
theorem PySem.W.Fast.tw17000155066101142889 : True := trivial
theorem PySem.W.Fast.tw10833955939284561965 : True := trivial
theorem PySem.W.Fast.tw7269565832213808900 : True := trivial
theorem PySem.W.Fast.tw17975652961387846372 : True := trivial
theorem PySem.W.Fast.tw16018607276475445134 : True := trivial
theorem PySem.W.Fast.tw11277716924127702174 : True := trivial
theorem PySem.W.Fast.tw8206430501311747189 : True := trivial
theorem PySem.W.Fast.tw17394056326795013819 : True := trivial
theorem PySem.W.Fast.tw16846860572762119324 : True := trivial
theorem PySem.W.Fast.tw1139862187096482527 : True := trivial
theorem PySem.W.Fast.tw17828083071136270317 : True := trivial
theorem PySem.W.Fast.tw2922074901204462755 : True := trivial
theorem PySem.W.Fast.tw14971970265804392439 : True := trivial
theorem PySem.W.Fast.tw16548257151911338427 : True := trivial
theorem PySem.W.Fast.tw3577408171920636059 : True := trivial
theorem PySem.W.Fast.tw14224011070414065920 : True := trivial
theorem PySem.W.Fast.tw17913803186225011329 : True := trivial
theorem PySem.W.Fast.tw10045867985992453528 : True := trivial
theorem PySem.W.Fast.tw12635813782599140982 : True := trivial
theorem PySem.W.Fast.tw11495947367809530248 : True := trivial
theorem PySem.W.Fast.tw16339471991904476338 : True := trivial
theorem PySem.W.Fast.tw6929956602132211858 : True := trivial
theorem PySem.W.Fast.tw13615603153576403970 : True := trivial
theorem PySem.W.Fast.tw9501820088010722379 : True := trivial
theorem PySem.W.Fast.tw4224760802259116069 : True := trivial
theorem PySem.W.Fast.tw11740888236361828772 : True := trivial
theorem PySem.W.Fast.tw2627984346626558326 : True := trivial
theorem PySem.W.Fast.tw4278798014809849964 : True := trivial
theorem PySem.W.Fast.tw6722154040420286063 : True := trivial
theorem PySem.W.Fast.tw14305139224198610471 : True := trivial
theorem PySem.W.Fast.tw10487160056961263569 : True := trivial
theorem PySem.W.Fast.tw4658958612460137192 : True := trivial
theorem PySem.W.Fast.tw16966814322356759819 : True := trivial
theorem PySem.W.Fast.tw8642067239939848140 : True := trivial
theorem PySem.W.Fast.tw117213463901210413 : True := trivial
theorem PySem.W.Fast.tw3932211907712209587 : True := trivial
theorem PySem.W.Fast.tw2664551874359636763 : True := trivial
theorem PySem.W.Fast.tw3355348695024010778 : True := trivial
theorem PySem.W.Fast.tw15423634916342008072 : True := trivial
theorem PySem.W.Fast.tw4039474712603431140 : True := trivial
theorem PySem.W.Fast.tw1377046205977697930 : True := trivial
theorem PySem.W.Fast.tw11838138170533393997 : True := trivial
theorem PySem.W.Fast.tw17024950926791866790 : True := trivial
theorem PySem.W.Fast.tw313226197891681235 : True := trivial
theorem PySem.W.Fast.tw6004533443673955352 : True := trivial
theorem PySem.W.Fast.tw5349121933718820234 : True := trivial
theorem PySem.W.Fast.tw2958062672499776758 : True := trivial
theorem PySem.W.Fast.tw16374537267813192141 : True := trivial
theorem PySem.W.Fast.tw3362959441861295915 : True := trivial
theorem PySem.W.Fast.tw16741492637210864865 : True := trivial
theorem PySem.W.Fast.tw3880421473898291048 : True := trivial
theorem PySem.W.Fast.tw15894407043143930727 : True := trivial
theorem PySem.W.Fast.tw3039592710220408265 : True := trivial
theorem PySem.W.Fast.tw14386061602966655976 : True := trivial
theorem PySem.W.Fast.tw16697116713213952808 : True := trivial
theorem PySem.W.Fast.tw1763209079605825380 : True := trivial
theorem PySem.W.Fast.tw13002492023102617099 : True := trivial
theorem PySem.W.Fast.tw18345786424863182364 : True := trivial
theorem PySem.W.Fast.tw5701610774189311196 : True := trivial
theorem PySem.W.Fast.tw1402947280878808549 : True := trivial
theorem PySem.W.Fast.tw17344680358763864322 : True := trivial
theorem PySem.W.Fast.tw13559156169165276386 : True := trivial
theorem PySem.W.Fast.tw17730428716208468724 : True := trivial
theorem PySem.W.Fast.tw17774800907425398282 : True := trivial
theorem PySem.W.Fast.tw15900120412870309639 : True := trivial
theorem PySem.W.Fast.tw17954471519018878134 : True := trivial
theorem PySem.W.Fast.tw12635297910168745909 : True := trivial
theorem PySem.W.Fast.tw17532440430192770315 : True := trivial
theorem PySem.W.Fast.tw12850107946570832962 : True := trivial
theorem PySem.W.Fast.tw17274371674624000324 : True := trivial
theorem PySem.W.Fast.tw17730448691065144110 : True := trivial
theorem PySem.W.Fast.tw9537544019596298400 : True := trivial
theorem PySem.W.Fast.tw16752143609539240740 : True := trivial
theorem PySem.W.Fast.tw2905824091091238844 : True := trivial
theorem PySem.W.Fast.tw2422670821966735624 : True := trivial
theorem PySem.W.Fast.tw17552769576498331613 : True := trivial
theorem PySem.W.Fast.tw3891137856419664920 : True := trivial
theorem PySem.W.Fast.tw15663404670287596823 : True := trivial
theorem PySem.W.Fast.tw7286323032743288035 : True := trivial
theorem PySem.W.Fast.tw10938465397075749097 : True := trivial
theorem PySem.W.Fast.tw8537084889766193716 : True := trivial
theorem PySem.W.Fast.tw9376109419431680627 : True := trivial
theorem PySem.W.Fast.tw3560238982266916124 : True := trivial
theorem PySem.W.Fast.tw2660918139993853925 : True := trivial
theorem PySem.W.Fast.tw932993149863042379 : True := trivial
theorem PySem.W.Fast.tw17863021456227041891 : True := trivial
theorem PySem.W.Fast.tw1258299570235058372 : True := trivial
theorem PySem.W.Fast.tw12659028871203227004 : True := trivial
theorem PySem.W.Fast.tw6589095468515690095 : True := trivial
theorem PySem.W.Fast.tw13987355940573415152 : True := trivial
theorem PySem.W.Fast.tw7392212959928792091 : True := trivial
theorem PySem.W.Fast.tw2948108419219029167 : True := trivial
theorem PySem.W.Fast.tw15562837088269578035 : True := trivial
theorem PySem.W.Fast.tw8860024209350480642 : True := trivial
theorem PySem.W.Fast.tw9759809726879904816 : True := trivial
theorem PySem.W.Fast.tw16296994325663420285 : True := trivial
theorem PySem.W.Fast.tw16439824349840649037 : True := trivial
theorem PySem.W.Fast.tw219737044198020058 : True := trivial
theorem PySem.W.Fast.tw18416463498863911781 : True := trivial
theorem PySem.W.Fast.tw4090926877573551719 : True := trivial
theorem PySem.W.Fast.tw5518745428033880147 : True := trivial
theorem PySem.W.Fast.tw16180582048198870337 : True := trivial
theorem PySem.W.Fast.tw4434333111790514575 : True := trivial
theorem PySem.W.Fast.tw1702518465993881591 : True := trivial
theorem PySem.W.Fast.tw17888162413812561239 : True := trivial
theorem PySem.W.Fast.tw13678640442995254988 : True := trivial
theorem PySem.W.Fast.tw15919542637913265678 : True := trivial
theorem PySem.W.Fast.tw5529568453561195837 : True := trivial
theorem PySem.W.Fast.tw7788680626742099145 : True := trivial
theorem PySem.W.Fast.tw5732905514179830355 : True := trivial
theorem PySem.W.Fast.tw8595292554425487202 : True := trivial
theorem PySem.W.Fast.tw1333364371103165705 : True := trivial
theorem PySem.W.Fast.tw13807232174902173590 : True := trivial
theorem PySem.W.Fast.tw2670528217467546775 : True := trivial
theorem PySem.W.Fast.tw14834023430324568649 : True := trivial
theorem PySem.W.Fast.tw5823794197072137003 : True := trivial
theorem PySem.W.Fast.tw13759679279233594173 : True := trivial
theorem PySem.W.Fast.tw9626621113073979434 : True := trivial
theorem PySem.W.Fast.tw11957962974430299695 : True := trivial
theorem PySem.W.Fast.tw10942035263794033107 : True := trivial
theorem PySem.W.Fast.tw4071324889030633612 : True := trivial
theorem PySem.W.Fast.tw4011157648589011858 : True := trivial
theorem PySem.W.Fast.tw15806122291839087668 : True := trivial
theorem PySem.W.Fast.tw17000458434675057986 : True := trivial
theorem PySem.W.Fast.tw12022618010286034681 : True := trivial
theorem PySem.W.Fast.tw11707433790658880453 : True := trivial
theorem PySem.W.Fast.tw667198328695590252 : True := trivial
theorem PySem.W.Fast.tw11566699232636054958 : True := trivial
theorem PySem.W.Fast.tw16176465441171805009 : True := trivial
theorem PySem.W.Fast.tw4966893808263662355 : True := trivial
theorem PySem.W.Fast.tw930746551332336609 : True := trivial
theorem PySem.W.Fast.tw16413264400604254196 : True := trivial
theorem PySem.W.Fast.tw8989982439271903415 : True := trivial
theorem PySem.W.Fast.tw2354101950205528012 : True := trivial
theorem PySem.W.Fast.tw8047484207015712433 : True := trivial
theorem PySem.W.Fast.tw11682084944484805031 : True := trivial
theorem PySem.W.Fast.tw18260038339965228139 : True := trivial
theorem PySem.W.Fast.tw8719427161674164953 : True := trivial
theorem PySem.W.Fast.tw14896874001708588922 : True := trivial
theorem PySem.W.Fast.tw1092655722715705105 : True := trivial
theorem PySem.W.Fast.tw12233582284571471492 : True := trivial
theorem PySem.W.Fast.tw11445135464325071761 : True := trivial
theorem PySem.W.Fast.tw1735497430108182060 : True := trivial
theorem PySem.W.Fast.tw3442601649717412197 : True := trivial
theorem PySem.W.Fast.tw5200128776193632040 : True := trivial
theorem PySem.W.Fast.tw1749818173716722547 : True := trivial
theorem PySem.W.Fast.tw2711585505577850959 : True := trivial
theorem PySem.W.Fast.tw7650934615059315214 : True := trivial
theorem PySem.W.Fast.tw460243522976405022 : True := trivial
theorem PySem.W.Fast.tw17164873540382356111 : True := trivial
theorem PySem.W.Fast.tw10424941004445345732 : True := trivial
theorem PySem.W.Fast.tw10470071008263537045 : True := trivial
theorem PySem.W.Fast.tw7250012664060256230 : True := trivial
theorem PySem.W.Fast.tw3093977132361051618 : True := trivial
theorem PySem.W.Fast.tw12329403913580668285 : True := trivial
theorem PySem.W.Fast.tw3131671291697673992 : True := trivial
theorem PySem.W.Fast.tw7401281599722004195 : True := trivial
theorem PySem.W.Fast.tw1617757218408452269 : True := trivial
theorem PySem.W.Fast.tw5770868932273138760 : True := trivial
theorem PySem.W.Fast.tw7504490480230193789 : True := trivial
theorem PySem.W.Fast.tw10323183001455561277 : True := trivial
theorem PySem.W.Fast.tw10706342367453228570 : True := trivial
theorem PySem.W.Fast.tw6550987210724342151 : True := trivial
theorem PySem.W.Fast.tw8620020772036689432 : True := trivial
theorem PySem.W.Fast.tw3424931102881643321 : True := trivial
theorem PySem.W.Fast.tw10887116778572429059 : True := trivial
theorem PySem.W.Fast.tw2460228577881660442 : True := trivial
theorem PySem.W.Fast.tw11543547407058413889 : True := trivial
theorem PySem.W.Fast.tw9979284746773624096 : True := trivial
theorem PySem.W.Fast.tw9151444980202551346 : True := trivial
theorem PySem.W.Fast.tw15742981410569661332 : True := trivial
theorem PySem.W.Fast.tw6683783046931543321 : True := trivial
theorem PySem.W.Fast.tw11108263761283441063 : True := trivial
theorem PySem.W.Fast.tw17827458813498177553 : True := trivial
theorem PySem.W.Fast.tw7745614565497352828 : True := trivial
theorem PySem.W.Fast.tw3264259588550801142 : True := trivial
theorem PySem.W.Fast.tw11270796479367742343 : True := trivial
theorem PySem.W.Fast.tw721709456127091705 : True := trivial
theorem PySem.W.Fast.tw16406328271908756883 : True := trivial
theorem PySem.W.Fast.tw14311459727803291754 : True := trivial
theorem PySem.W.Fast.tw15168306246750427876 : True := trivial
theorem PySem.W.Fast.tw11306939235166856333 : True := trivial
theorem PySem.W.Fast.tw10670733350059645105 : True := trivial
theorem PySem.W.Fast.tw5721027456603625697 : True := trivial
theorem PySem.W.Fast.tw389472881494512206 : True := trivial
theorem PySem.W.Fast.tw12268644228514654432 : True := trivial
theorem PySem.W.Fast.tw5902227825499142635 : True := trivial
theorem PySem.W.Fast.tw7098571738820278039 : True := trivial
theorem PySem.W.Fast.tw8424611434330503625 : True := trivial
theorem PySem.W.Fast.tw18056578402003937789 : True := trivial
theorem PySem.W.Fast.tw3327986453032591115 : True := trivial
theorem PySem.W.Fast.tw16942194440817826258 : True := trivial
theorem PySem.W.Fast.tw13607416678640721797 : True := trivial
theorem PySem.W.Fast.tw1829445100760108279 : True := trivial
theorem PySem.W.Fast.tw5758256569797452207 : True := trivial
theorem PySem.W.Fast.tw13721567128424951087 : True := trivial
theorem PySem.W.Fast.tw2599325451414397859 : True := trivial
theorem PySem.W.Fast.tw17015423121036801654 : True := trivial
theorem PySem.W.Fast.tw4302124980754421698 : True := trivial
theorem PySem.W.Fast.tw973662469405803806 : True := trivial
theorem PySem.W.Fast.tw10379131730601215995 : True := trivial
theorem PySem.W.Fast.tw7140130562030077042 : True := trivial
theorem PySem.W.Fast.tw2719445374943340272 : True := trivial
theorem PySem.W.Fast.tw2401699919119007470 : True := trivial
theorem PySem.W.Fast.tw9931943479562821362 : True := trivial
theorem PySem.W.Fast.tw6909570525239066004 : True := trivial
theorem PySem.W.Fast.tw12224578244612797663 : True := trivial
theorem PySem.W.Fast.tw9236875199018929784 : True := trivial
theorem PySem.W.Fast.tw9821368406582625841 : True := trivial
theorem PySem.W.Fast.tw392140993173905013 : True := trivial
theorem PySem.W.Fast.tw17280976486791472633 : True := trivial
theorem PySem.W.Fast.tw1401972060568974870 : True := trivial
theorem PySem.W.Fast.tw12825359941727978080 : True := trivial
theorem PySem.W.Fast.tw136631920214876835 : True := trivial
theorem PySem.W.Fast.tw9951705424602377420 : True := trivial
theorem PySem.W.Fast.tw7276740287692124622 : True := trivial
theorem PySem.W.Fast.tw12371321757623732685 : True := trivial
theorem PySem.W.Fast.tw10308316962582663543 : True := trivial
theorem PySem.W.Fast.tw8450942572126056277 : True := trivial
theorem PySem.W.Fast.tw8579058602437062094 : True := trivial
theorem PySem.W.Fast.tw3282434896037501709 : True := trivial
theorem PySem.W.Fast.tw6426273055680023932 : True := trivial
theorem PySem.W.Fast.tw3118938333895590913 : True := trivial
theorem PySem.W.Fast.tw17100903815162463580 : True := trivial
theorem PySem.W.Fast.tw11964429278604863157 : True := trivial
theorem PySem.W.Fast.tw11892598404827812706 : True := trivial
theorem PySem.W.Fast.tw8376441433122354887 : True := trivial
theorem PySem.W.Fast.tw11796506867022685745 : True := trivial
theorem PySem.W.Fast.tw16531745337717519161 : True := trivial
theorem PySem.W.Fast.tw189603312586018693 : True := trivial
theorem PySem.W.Fast.tw2478078296215019888 : True := trivial
theorem PySem.W.Fast.tw8119918657739134586 : True := trivial
theorem PySem.W.Fast.tw5396446701170858492 : True := trivial
theorem PySem.W.Fast.tw14108194823987119177 : True := trivial
theorem PySem.W.Fast.tw7323676302269181137 : True := trivial
theorem PySem.W.Fast.tw7483462131439158144 : True := trivial
theorem PySem.W.Fast.tw14112274594779413971 : True := trivial
theorem PySem.W.Fast.tw8459811325457737761 : True := trivial
theorem PySem.W.Fast.tw13471461260053382970 : True := trivial
theorem PySem.W.Fast.tw10939839348159177617 : True := trivial
theorem PySem.W.Fast.tw1926869481663833186 : True := trivial
theorem PySem.W.Fast.tw3209381107111851631 : True := trivial
theorem PySem.W.Fast.tw10007627690174824804 : True := trivial
theorem PySem.W.Fast.tw17988542015724977305 : True := trivial
theorem PySem.W.Fast.tw282004115355043989 : True := trivial
theorem PySem.W.Fast.tw11588390666370768167 : True := trivial
theorem PySem.W.Fast.tw183835017167291270 : True := trivial
theorem PySem.W.Fast.tw10314498396905981064 : True := trivial
theorem PySem.W.Fast.tw16349804527192203551 : True := trivial
theorem PySem.W.Fast.tw6662432510661729299 : True := trivial
theorem PySem.W.Fast.tw12237943961548833269 : True := trivial
theorem PySem.W.Fast.tw6434138532213402376 : True := trivial
theorem PySem.W.Fast.tw14884601019740666482 : True := trivial
theorem PySem.W.Fast.tw14714103240675001986 : True := trivial
theorem PySem.W.Fast.tw18263319221461684349 : True := trivial
theorem PySem.W.Fast.tw5076957145309523181 : True := trivial
theorem PySem.W.Fast.tw17352973434858128600 : True := trivial
theorem PySem.W.Fast.tw8693227569615203950 : True := trivial
theorem PySem.W.Fast.tw4172830789200971933 : True := trivial
theorem PySem.W.Fast.tw3764465048917985505 : True := trivial
theorem PySem.W.Fast.tw1355338860687761863 : True := trivial
theorem PySem.W.Fast.tw11161088081135249708 : True := trivial
theorem PySem.W.Fast.tw9285146279643344392 : True := trivial
theorem PySem.W.Fast.tw5882768191206486792 : True := trivial
theorem PySem.W.Fast.tw441327347791068078 : True := trivial
theorem PySem.W.Fast.tw7009043117176579089 : True := trivial
theorem PySem.W.Fast.tw12450158673883907302 : True := trivial
theorem PySem.W.Fast.tw607167704815816724 : True := trivial
theorem PySem.W.Fast.tw10996506086634736982 : True := trivial
theorem PySem.W.Fast.tw17532718790514356516 : True := trivial
theorem PySem.W.Fast.tw6245536207120538393 : True := trivial
theorem PySem.W.Fast.tw5345256250457102556 : True := trivial
theorem PySem.W.Fast.tw13915792640404377917 : True := trivial
theorem PySem.W.Fast.tw7581816359482902497 : True := trivial
theorem PySem.W.Fast.tw7299303143086499733 : True := trivial
theorem PySem.W.Fast.tw1772237422875290029 : True := trivial
theorem PySem.W.Fast.tw4921902886906138986 : True := trivial
theorem PySem.W.Fast.tw11788150170368784547 : True := trivial
theorem PySem.W.Fast.tw6363645014702824404 : True := trivial
theorem PySem.W.Fast.tw2611137233208623240 : True := trivial
theorem PySem.W.Fast.tw11863081143760314161 : True := trivial
theorem PySem.W.Fast.tw43969757491396457 : True := trivial
theorem PySem.W.Fast.tw8727135674562949291 : True := trivial
theorem PySem.W.Fast.tw14073706353221006472 : True := trivial
theorem PySem.W.Fast.tw15034313371233782410 : True := trivial
theorem PySem.W.Fast.tw17101871299007795629 : True := trivial
theorem PySem.W.Fast.tw2283851925072248500 : True := trivial
theorem PySem.W.Fast.tw13642483538084851733 : True := trivial
theorem PySem.W.Fast.tw7232422423428716515 : True := trivial
theorem PySem.W.Fast.tw18273839248471157720 : True := trivial
theorem PySem.W.Fast.tw15475462885187679331 : True := trivial
theorem PySem.W.Fast.tw9564595351457756722 : True := trivial
theorem PySem.W.Fast.tw1708024556718086227 : True := trivial
theorem PySem.W.Fast.tw6817277305950994716 : True := trivial
theorem PySem.W.Fast.tw14537914154153760125 : True := trivial
theorem PySem.W.Fast.tw17057272898397164401 : True := trivial
theorem PySem.W.Fast.tw15880737140895825463 : True := trivial
theorem PySem.W.Fast.tw9594665118957945026 : True := trivial
theorem PySem.W.Fast.tw17018628822417861297 : True := trivial
theorem PySem.W.Fast.tw13215998728584607739 : True := trivial
theorem PySem.W.Fast.tw16655555454665732581 : True := trivial
theorem PySem.W.Fast.tw15195428891847259777 : True := trivial
theorem PySem.W.Fast.tw16432479971616331241 : True := trivial
theorem PySem.W.Fast.tw6090905460779295987 : True := trivial
theorem PySem.W.Fast.tw14209830616999942402 : True := trivial
theorem PySem.W.Fast.tw2001226814458364393 : True := trivial
theorem PySem.W.Fast.tw13314330512976039754 : True := trivial
theorem PySem.W.Fast.tw10015664371746657536 : True := trivial
theorem PySem.W.Fast.tw7802139600951554647 : True := trivial
theorem PySem.W.Fast.tw6587116730350146372 : True := trivial
theorem PySem.W.Fast.tw13526986893379352335 : True := trivial
theorem PySem.W.Fast.tw6019396324639902685 : True := trivial
theorem PySem.W.Fast.tw13789449189825218787 : True := trivial
theorem PySem.W.Fast.tw1706496860858754268 : True := trivial
theorem PySem.W.Fast.tw7496433998918960881 : True := trivial
theorem PySem.W.Fast.tw682011567655089306 : True := trivial
theorem PySem.W.Fast.tw11707371222683016368 : True := trivial
theorem PySem.W.Fast.tw2378363196638174374 : True := trivial
theorem PySem.W.Fast.tw10948738476641704880 : True := trivial
theorem PySem.W.Fast.tw3778451253796500701 : True := trivial
theorem PySem.W.Fast.tw9011979029575296479 : True := trivial
theorem PySem.W.Fast.tw17434858337260393937 : True := trivial
theorem PySem.W.Fast.tw1886563365779066154 : True := trivial
theorem PySem.W.Fast.tw1638017585896720355 : True := trivial
theorem PySem.W.Fast.tw17672482021469178181 : True := trivial
theorem PySem.W.Fast.tw11994158751524154303 : True := trivial
theorem PySem.W.Fast.tw1320183511955256522 : True := trivial
theorem PySem.W.Fast.tw662354867322794072 : True := trivial
theorem PySem.W.Fast.tw8224813933742928703 : True := trivial
theorem PySem.W.Fast.tw18220123701641295943 : True := trivial
theorem PySem.W.Fast.tw8253183596043897158 : True := trivial
theorem PySem.W.Fast.tw14223099787259518943 : True := trivial
theorem PySem.W.Fast.tw16644606511662114574 : True := trivial
theorem PySem.W.Fast.tw7783732958741208154 : True := trivial
theorem PySem.W.Fast.tw12898947447245864913 : True := trivial
theorem PySem.W.Fast.tw1370275717833778536 : True := trivial
theorem PySem.W.Fast.tw17846936440860909165 : True := trivial
theorem PySem.W.Fast.tw724751600484774222 : True := trivial
theorem PySem.W.Fast.tw10227693086864044499 : True := trivial
theorem PySem.W.Fast.tw6448080314894763839 : True := trivial
theorem PySem.W.Fast.tw10919533547850550483 : True := trivial
theorem PySem.W.Fast.tw4681523508651956083 : True := trivial
theorem PySem.W.Fast.tw12393455550290869266 : True := trivial
theorem PySem.W.Fast.tw2193789692954389824 : True := trivial
theorem PySem.W.Fast.tw5565278806992967083 : True := trivial
theorem PySem.W.Fast.tw16869277618539721502 : True := trivial
theorem PySem.W.Fast.tw4275521005467322725 : True := trivial
theorem PySem.W.Fast.tw9674257727999782656 : True := trivial
theorem PySem.W.Fast.tw3152983702415266003 : True := trivial
theorem PySem.W.Fast.tw9458956999447867950 : True := trivial
theorem PySem.W.Fast.tw16494616584097029746 : True := trivial
theorem PySem.W.Fast.tw10029231156530900338 : True := trivial
theorem PySem.W.Fast.tw13809362725867891129 : True := trivial
theorem PySem.W.Fast.tw13512673800721320934 : True := trivial
theorem PySem.W.Fast.tw11853533878840232495 : True := trivial
theorem PySem.W.Fast.tw2862820112641550484 : True := trivial
theorem PySem.W.Fast.tw9396933662098498411 : True := trivial
theorem PySem.W.Fast.tw7892128664451923741 : True := trivial
theorem PySem.W.Fast.tw12488000419048109807 : True := trivial
theorem PySem.W.Fast.tw11625766737575182897 : True := trivial
theorem PySem.W.Fast.tw15560500314895047343 : True := trivial
theorem PySem.W.Fast.tw3105397867545767578 : True := trivial
theorem PySem.W.Fast.tw8400853705098224536 : True := trivial
theorem PySem.W.Fast.tw16643379632663270332 : True := trivial
theorem PySem.W.Fast.tw8708707556590381134 : True := trivial
theorem PySem.W.Fast.tw3976722010076183465 : True := trivial
theorem PySem.W.Fast.tw17517737089405305841 : True := trivial
theorem PySem.W.Fast.tw6122645084068987007 : True := trivial
theorem PySem.W.Fast.tw11790162104776037713 : True := trivial
theorem PySem.W.Fast.tw4525517667737911620 : True := trivial
theorem PySem.W.Fast.tw17026713947507217902 : True := trivial
theorem PySem.W.Fast.tw1537898542681612871 : True := trivial
theorem PySem.W.Fast.tw1041845030581493396 : True := trivial
theorem PySem.W.Fast.tw6148621092414575339 : True := trivial
theorem PySem.W.Fast.tw7299951869573292228 : True := trivial
theorem PySem.W.Fast.tw878741703135273975 : True := trivial
theorem PySem.W.Fast.tw5248340912204065574 : True := trivial
theorem PySem.W.Fast.tw1962928258387122110 : True := trivial
theorem PySem.W.Fast.tw16241802466949684156 : True := trivial
theorem PySem.W.Fast.tw1869930749605803152 : True := trivial
theorem PySem.W.Fast.tw9676229304581654039 : True := trivial
theorem PySem.W.Fast.tw4904739604578439355 : True := trivial
theorem PySem.W.Fast.tw15542503528162795033 : True := trivial
theorem PySem.W.Fast.tw7397068168572129948 : True := trivial
theorem PySem.W.Fast.tw11333186260410459676 : True := trivial
theorem PySem.W.Fast.tw17244072584429378644 : True := trivial
theorem PySem.W.Fast.tw8603108125212654177 : True := trivial
theorem PySem.W.Fast.tw17300597898927385350 : True := trivial
theorem PySem.W.Fast.tw5978237884098788730 : True := trivial
theorem PySem.W.Fast.tw5032809538720368765 : True := trivial
theorem PySem.W.Fast.tw704327219915372674 : True := trivial
theorem PySem.W.Fast.tw1218959903707654005 : True := trivial
theorem PySem.W.Fast.tw9787463984185863102 : True := trivial
theorem PySem.W.Fast.tw6144853644547557980 : True := trivial
theorem PySem.W.Fast.tw7198390536060210744 : True := trivial
theorem PySem.W.Fast.tw4075660801711882420 : True := trivial
theorem PySem.W.Fast.tw18350330562280901221 : True := trivial
theorem PySem.W.Fast.tw12809422525583811893 : True := trivial
theorem PySem.W.Fast.tw15823609455315575823 : True := trivial
theorem PySem.W.Fast.tw10010936943081839664 : True := trivial
theorem PySem.W.Fast.tw5189142188285759775 : True := trivial
theorem PySem.W.Fast.tw8017206721242287953 : True := trivial
theorem PySem.W.Fast.tw1620339239838986703 : True := trivial
theorem PySem.W.Fast.tw12945968074294007009 : True := trivial
theorem PySem.W.Fast.tw14553827428707814869 : True := trivial
theorem PySem.W.Fast.tw7581352650102555174 : True := trivial
theorem PySem.W.Fast.tw12821735335276811757 : True := trivial
theorem PySem.W.Fast.tw8902219603052485911 : True := trivial
theorem PySem.W.Fast.tw7619357645376055252 : True := trivial
theorem PySem.W.Fast.tw15323854079317868165 : True := trivial
theorem PySem.W.Fast.tw13141144453892091621 : True := trivial
theorem PySem.W.Fast.tw9948023125614773506 : True := trivial
theorem PySem.W.Fast.tw5111356299099525756 : True := trivial
theorem PySem.W.Fast.tw13640514254501968386 : True := trivial
theorem PySem.W.Fast.tw11939915149646268982 : True := trivial
theorem PySem.W.Fast.tw12182807814244774211 : True := trivial
theorem PySem.W.Fast.tw9787396351842916947 : True := trivial
theorem PySem.W.Fast.tw5706481520468235054 : True := trivial
theorem PySem.W.Fast.tw8796240567053077481 : True := trivial
theorem PySem.W.Fast.tw11985326045990495214 : True := trivial
theorem PySem.W.Fast.tw3820604794100220378 : True := trivial
theorem PySem.W.Fast.tw18126140380344562322 : True := trivial
theorem PySem.W.Fast.tw16979880578912567463 : True := trivial
theorem PySem.W.Fast.tw13236226663087606529 : True := trivial
theorem PySem.W.Fast.tw325292655437039998 : True := trivial
theorem PySem.W.Fast.tw11817470609975844035 : True := trivial
theorem PySem.W.Fast.tw12392613427281201732 : True := trivial
theorem PySem.W.Fast.tw10352308551163946355 : True := trivial
theorem PySem.W.Fast.tw8032284361305108907 : True := trivial
theorem PySem.W.Fast.tw15278061642289888581 : True := trivial
theorem PySem.W.Fast.tw3698559305507148144 : True := trivial
theorem PySem.W.Fast.tw16593013826814733010 : True := trivial
theorem PySem.W.Fast.tw383695940523520267 : True := trivial
theorem PySem.W.Fast.tw1419416864934026935 : True := trivial
theorem PySem.W.Fast.tw18340240734955500558 : True := trivial
theorem PySem.W.Fast.tw9219426015542480343 : True := trivial
theorem PySem.W.Fast.tw9136488742655976645 : True := trivial
theorem PySem.W.Fast.tw16437185098154296904 : True := trivial
theorem PySem.W.Fast.tw6967401301877209104 : True := trivial
theorem PySem.W.Fast.tw1055568401681811165 : True := trivial
theorem PySem.W.Fast.tw14333388528381170442 : True := trivial
theorem PySem.W.Fast.tw4558998842232669794 : True := trivial
theorem PySem.W.Fast.tw6711915476519705758 : True := trivial
theorem PySem.W.Fast.tw7469732015759309437 : True := trivial
theorem PySem.W.Fast.tw4549333791460862111 : True := trivial
theorem PySem.W.Fast.tw2408619945344806742 : True := trivial
theorem PySem.W.Fast.tw4552823106982906706 : True := trivial
theorem PySem.W.Fast.tw2039238271031011813 : True := trivial
theorem PySem.W.Fast.tw3766158894648301139 : True := trivial
theorem PySem.W.Fast.tw13900631225919944168 : True := trivial
theorem PySem.W.Fast.tw2968979199505139716 : True := trivial
theorem PySem.W.Fast.tw14023627001141898710 : True := trivial
theorem PySem.W.Fast.tw9504726810853072989 : True := trivial
theorem PySem.W.Fast.tw4292500188555128830 : True := trivial
theorem PySem.W.Fast.tw9908251947323293946 : True := trivial
theorem PySem.W.Fast.tw3972328310683599613 : True := trivial
theorem PySem.W.Fast.tw505943868828395459 : True := trivial
theorem PySem.W.Fast.tw6679490504615227074 : True := trivial
theorem PySem.W.Fast.tw2736616831223182526 : True := trivial
theorem PySem.W.Fast.tw14420389602138693270 : True := trivial
theorem PySem.W.Fast.tw2902314222560053993 : True := trivial
theorem PySem.W.Fast.tw16349216596472256690 : True := trivial
theorem PySem.W.Fast.tw11462045893675790159 : True := trivial
theorem PySem.W.Fast.tw11420187438672877268 : True := trivial
theorem PySem.W.Fast.tw12866136484021002089 : True := trivial
theorem PySem.W.Fast.tw4319705520415482375 : True := trivial
theorem PySem.W.Fast.tw16817318245366136608 : True := trivial
theorem PySem.W.Fast.tw6380047634161181297 : True := trivial
theorem PySem.W.Fast.tw11013792430000457035 : True := trivial
theorem PySem.W.Fast.tw4748654258956052638 : True := trivial
theorem PySem.W.Fast.tw17537794083376710389 : True := trivial
theorem PySem.W.Fast.tw11130039905162102590 : True := trivial
theorem PySem.W.Fast.tw13925586954763233925 : True := trivial
theorem PySem.W.Fast.tw4797165386629745026 : True := trivial
theorem PySem.W.Fast.tw18101931140130867144 : True := trivial
theorem PySem.W.Fast.tw757081541053455785 : True := trivial
theorem PySem.W.Fast.tw10073347824450446311 : True := trivial
theorem PySem.W.Fast.tw16947794391021106201 : True := trivial
theorem PySem.W.Fast.tw11452132507678324671 : True := trivial
theorem PySem.W.Fast.tw6125931036764729998 : True := trivial
theorem PySem.W.Fast.tw4978915544186085027 : True := trivial
theorem PySem.W.Fast.tw15007238320947547705 : True := trivial
theorem PySem.W.Fast.tw12813236842856870187 : True := trivial
theorem PySem.W.Fast.tw14973007898608030118 : True := trivial
theorem PySem.W.Fast.tw5976474108018559520 : True := trivial
theorem PySem.W.Fast.tw11729385059970357855 : True := trivial
theorem PySem.W.Fast.tw13981391230805400906 : True := trivial
theorem PySem.W.Fast.tw2315820567201803617 : True := trivial
theorem PySem.W.Fast.tw14433975572909055671 : True := trivial
theorem PySem.W.Fast.tw14326252917377295143 : True := trivial
theorem PySem.W.Fast.tw6654550962395885724 : True := trivial
theorem PySem.W.Fast.tw15066959818950650227 : True := trivial
theorem PySem.W.Fast.tw17069979004554194336 : True := trivial
theorem PySem.W.Fast.tw9305782018832362445 : True := trivial
theorem PySem.W.Fast.tw15560853006256673968 : True := trivial
theorem PySem.W.Fast.tw387338674003428930 : True := trivial
theorem PySem.W.Fast.tw10508251915553800215 : True := trivial
theorem PySem.W.Fast.tw1156252341971683116 : True := trivial
theorem PySem.W.Fast.tw16792545251062261874 : True := trivial
theorem PySem.W.Fast.tw13912434898499826684 : True := trivial
theorem PySem.W.Fast.tw9529234661008812162 : True := trivial
theorem PySem.W.Fast.tw18211773271919218964 : True := trivial
theorem PySem.W.Fast.tw9467589175468403638 : True := trivial
theorem PySem.W.Fast.tw12647630874787467225 : True := trivial
theorem PySem.W.Fast.tw951843321253372498 : True := trivial
theorem PySem.W.Fast.tw14530364306720264245 : True := trivial
theorem PySem.W.Fast.tw9800571698397750058 : True := trivial
theorem PySem.W.Fast.tw7275051467321613617 : True := trivial
theorem PySem.W.Fast.tw1257956192623854099 : True := trivial
namespace Mine
open_top hd for PySem.Challenge.rw_xm0177_01
open PySem.Calls
theorem fz_mro : mroOf (.type "frozenset") = pure [.type "frozenset", .type "object"] := by rw [mroOf_type]; kernel_rfl
theorem fz_lookup_new : typeLookup (.type "frozenset") "__new__" = pure (some (.builtin "frozenset.__new__")) := by rw [typeLookup_type, builtinLookup_eq_fast]; kernel_rfl
theorem fz_init : Slot "frozenset" "__init__" "object.__init__" :=
  .of (owner := "object") (n := "__init__") (by rw [typeLookup_type, builtinLookup_eq_fast]; kernel_rfl) (by decide +kernel) (by decide +kernel) (by decide +kernel)
    (by first | exact .inl (by decide +kernel) | exact .inr (by decide +kernel)) (by rw [isSubtype_type]; kernel_rfl)
theorem fz_called : TypeCalled "frozenset" "frozenset.__new__" "object.__init__" :=
  ⟨by decide +kernel, by decide +kernel, ⟨_, _, fz_mro⟩, madeBy_type fz_mro fz_lookup_new (by decide +kernel), by decide +kernel, by rw [isSubtype_type]; kernel_rfl, fz_init⟩
theorem fz_typeCall (a : Value) : checkTypeCall "frozenset" ⟨[a], []⟩ = pure () := by kernel_rfl
theorem fz_newCall (a : Value) : checkBuiltinCall "frozenset.__new__" ⟨[.type "frozenset", a], []⟩ = pure () := by kernel_rfl
theorem fz_entry : entryFor table "frozenset.__new__" = some Builtin.«frozenset.__new__» := entryFor_of_tree (by kernel_rfl)
theorem fz_sub : isSubtype (.type "frozenset") (.type "frozenset") = pure true := by rw [isSubtype_type]; kernel_rfl
theorem fz_dict_set : isSubtype (.type "dict") (.type "set") = pure false := by rw [isSubtype_type]; kernel_rfl
theorem fz_dict_fz : isSubtype (.type "dict") (.type "frozenset") = pure false := by rw [isSubtype_type]; kernel_rfl
abbrev frozO (es : Array (Int × Value)) (ep : Nat) (t : SetTable) : Obj := { cls := .type "frozenset", data := .set es ep t }
abbrev dict1 (tq : Nat) (val : Value) (ep : Nat) : Obj := { cls := .type "dict", data := .dict #[⟨0, .int 0 tq, val⟩] ep }
abbrev tab1 (led : Bool) : SetTable := { (SetTable.fresh 0 0 led) with place := #[0] }
theorem fz_lay (led : Bool) (x : Value) : layNew (SetTable.fresh 0 0 led) #[] 0 x = (#[(0, x)], tab1 led, false, false) := by
  cases led <;> kernel_rfl
theorem fz_update {prog : Program} {w : World} {A : Around} {E : Value → Shared → Prop} {id : String} {hp1 : Heap} {g : Array GenState} {dr : Drawn} {tk : Nat} {os : OsState} {d x : Addr} {ep tq : Nat} {val : Value} {led : Bool} {Q : Unit → Shared → Prop}
    (hlt : d ≠ x) (hsys : (d == sysModules) = false) (ht' : hp1.get? d = some (dict1 tq val ep)) (hS : hp1.get? x = some (frozO #[] 0 (.fresh 0 0 led)))
    (h : Q () ⟨hp1.update x (Obj.putSet #[(0, .int 0 tq)] (tab1 led)), g, dr, tk, os⟩) :
    wpAny (model prog w) A (Builtin.Frozenset.updateFrom id x (.ref d)) Q E ⟨hp1, g, dr, tk, os⟩ := by
  have h1 := fz_dict_set
  have h2 := fz_dict_fz
  have hT' : Shared.TypeIs ⟨hp1, g, dr, tk, os⟩ (.ref d) "dict" := ⟨_, ht', rfl⟩
  have hst : ∀ {Q : (Array (Int × Value) × Nat × SetTable) → Shared → Prop} {A : Around} {E : Value → Shared → Prop}, Q (#[], 0, SetTable.fresh 0 0 led) ⟨hp1, g, dr, tk, os⟩ → wpAny (model prog w) A (setState x) Q E ⟨hp1, g, dr, tk, os⟩ :=
    fun hQ => wpAny_setState_of hS rfl (by cases led <;> rfl) hQ
  have hroom : SetTable.roomFor (SetTable.fresh 0 0 led) 1 = none := by cases led <;> rfl
  unfold Builtin.Frozenset.updateFrom
  simp only [Std.Legacy.Range.forIn_eq_forIn_range']
  wp_walk using wpAny_typeOf hT', hst
  simp only [Std.Legacy.Range.size, List.size_toArray, List.length_cons, List.length_nil, List.range'_succ, List.range'_zero, List.forIn_cons, List.forIn_nil]
  wp_walk using wpAny_typeOf hT', hst
  simp only [List.getElem_toArray, List.getElem_cons_zero]
  rw [if_pos (by simp [byScan, Value.scannable, scanBound])]
  unfold setAddByScan
  refine wpAny_bind (wpAny_bind (wpAny_rule ?_))
  refine wpAny_bind ?_
  unfold setScan setScanFrom
  refine wpAny_pure ?_
  simp only [fz_lay]
  wp_walk using wpAny_typeOf hT', hst
  exact h
theorem fz_new (d : Addr) (ep tq : Nat) (val : Value) (hsys : (d == sysModules) = false) :
    Meets (Builtin.«frozenset.__new__» ⟨[.type "frozenset", .ref d], []⟩) (fun _ R s => s.heap.get? d = some (dict1 tq val ep) ∧
      ∀ led : Bool, R (.ok (.ret (.ref s.heap.objs.size))) { s with heap := (s.heap.push (frozO #[] 0 (.fresh 0 0 led))).update s.heap.objs.size (Obj.putSet #[(0, .int 0 tq)] (tab1 led)) }) :=
  .of_wp fun prog w A R s h => by
    obtain ⟨hp, g, dr, tk, os⟩ := s; obtain ⟨ht, h⟩ := h
    have hsub := fz_sub
    have h1 := fz_dict_set
    have h2 := fz_dict_fz
    have hinit := fz_init.lookup
    have hT : Shared.TypeIs ⟨hp, g, dr, tk, os⟩ (.ref d) "dict" := ⟨_, ht, rfl⟩
    unfold Builtin.«frozenset.__new__»
    wp_walk using wpAny_typeOf hT
    refine wpAny_askSetting (wpAny_pure ?_)
    dsimp only
    generalize (!(model prog w).w.params.followText "set-order") = led at *
    replace h := h led
    simp only [newObj]
    refine wpAny_bind (wpAny_alloc (wpAny_pure ?_))
    dsimp only at ht h ⊢
    have hlt : d ≠ hp.objs.size := fun e => absurd (Heap.lt_size ht) (by rw [e]; exact Nat.lt_irrefl _)
    have hS : (hp.push (frozO #[] 0 (.fresh 0 0 led))).get? hp.objs.size = some (frozO #[] 0 (.fresh 0 0 led)) := Heap.get?_push_size _ rfl
    have ht' : (hp.push (frozO #[] 0 (.fresh 0 0 led))).get? d = some (dict1 tq val ep) := Heap.get?_push_of_some _ ht
    have hT' : Shared.TypeIs ⟨hp.push (frozO #[] 0 (.fresh 0 0 led)), g, dr, tk, os⟩ (.ref d) "dict" := ⟨_, ht', rfl⟩
    generalize hq : hp.push (frozO #[] 0 (.fresh 0 0 led)) = hp1 at *
    generalize hp.objs.size = x at *
    clear hq ht hT
    have hst : ∀ {Q : (Array (Int × Value) × Nat × SetTable) → Shared → Prop} {A : Around} {E : Value → Shared → Prop}, Q (#[], 0, SetTable.fresh 0 0 led) ⟨hp1, g, dr, tk, os⟩ → wpAny (model prog w) A (setState x) Q E ⟨hp1, g, dr, tk, os⟩ :=
      fun hQ => wpAny_setState_of hS rfl (by cases led <;> rfl) hQ
    have hroom : SetTable.roomFor (SetTable.fresh 0 0 led) 1 = none := by cases led <;> rfl
    have up := @fz_update prog w
    wp_walk using up hlt hsys ht' hS
    exact ⟨_, rfl, h⟩
section
variable {prog : Program} {w : World} {A : Around} {E : Value → Shared → Prop} {s : Shared} {h₀ : Heap} {L d a : Addr} {m : Str → Option Value} {news : List (Addr × Obj)} {o : Obj} {val : Value} {Q : Value → Shared → Prop}
theorem fz_shape (h : o.IsDictOf (PySem.intKind prog w) [(0, val)]) : ∃ tq ep, o = dict1 tq val ep := by
  obtain ⟨es, ep, ⟨hc, hdi, hsl⟩, hd, hk, hp, _⟩ := h
  obtain ⟨c, di, dt, sl⟩ := o
  dsimp only at hc hdi hsl hd
  subst hc hdi hsl hd
  obtain ⟨es⟩ := es
  dsimp only at hp
  generalize hkv : ((0 : Int), val) = kv at hp
  cases hp with
  | @cons e _ es _ h1 h2 h3 =>
    cases h3
    subst hkv
    obtain ⟨k, hk1, hk2⟩ := hk e (by simp)
    obtain ⟨hs, ky, vl⟩ := e
    obtain ⟨tq, h4⟩ := Value.isInt_shape h1
    obtain ⟨tq2, h5⟩ := Value.isInt_shape hk1
    dsimp only at h2 h4 h5 hk2
    rw [h4] at h5
    cases h5
    subst h2 h4 hk2
    exact ⟨tq, ep, rfl⟩
theorem fz_call (F : Fr h₀ L s.heap m) (N : News h₀ L s.heap news) (hm : (d, o) ∈ news) (hd : o.IsDictOf (PySem.intKind prog w) [(0, val)]) (hsys : (d == sysModules) = false)
    (h : ∀ D h' tq led, Fr h₀ L h' m → News h₀ L h' ((D, frozO #[(0, .int 0 tq)] 1 (tab1 led)) :: news) → (∀ p ∈ news, p.1 < D) → Q (.ref D) { s with heap := h' }) :
    wpAny (model prog w) A (call (.type "frozenset") [.ref d]) Q E s := by
  obtain ⟨tq, ep, rfl⟩ := fz_shape hd
  have hS : ∀ led : Bool, (s.heap.push (frozO #[] 0 (.fresh 0 0 led))).get? s.heap.objs.size = some (frozO #[] 0 (.fresh 0 0 led)) := fun led => Heap.get?_push_size _ rfl
  have hne : s.heap.objs.size ≠ L := fun e => absurd F.ns.lt (by rw [e]; exact Nat.lt_irrefl _)
  have h0 : h₀.get? s.heap.objs.size = none := next_is_new F
  refine callType_new fz_called (by decide) (fz_typeCall _) (fz_newCall _) (fun obj => PySem.F.args_object_init_2 obj _) fz_entry (fz_new d ep tq val hsys) ⟨(N _ hm).1, fun led => ⟨?_, ?_⟩⟩
  · refine ⟨frozO #[(0, .int 0 tq)] 1 (tab1 led), ?_, rfl⟩
    exact Heap.get?_update_self _ (hS led) rfl
  · refine h _ _ tq led (((F.push _)).change (Heap.SameBut.update ..) hne h0) ?_ (fun p hp => Heap.lt_size (N p hp).1)
    intro p hp
    rcases List.mem_cons.mp hp with rfl | hp
    · exact ⟨Heap.get?_update_self _ (hS led) rfl, hne, h0⟩
    · refine ⟨(Heap.get?_update_ne _ _ _ _ ?_).trans (Heap.get?_push_of_some _ (N p hp).1), (N p hp).2⟩
      exact Nat.ne_of_lt (Heap.lt_size (N p hp).1)
theorem fz_in {k : Int} {t tq ep : Nat} {led : Bool} (N : News h₀ L s.heap news) (hm : (a, frozO #[(0, .int 0 tq)] ep (tab1 led)) ∈ news) (h : Q (.bool (decide (k = 0))) { s with toks := s.toks + 1 }) :
    wpAny (model prog w) A (compareOp .In (.int k t) (.ref a)) Q E s := by
  have ho := (N _ hm).1
  have hT : s.TypeIs (.ref a) "frozenset" := ⟨_, ho, rfl⟩
  have hkey : (PySem.intKind prog w).is k (.int k t) = true := by simp [PySem.intKind, Value.isInt]
  show wpAny _ _ (do return .bool (← contains (.ref a) (.int k t))) Q E s
  refine wpAny_bind ?_
  unfold contains
  try with_reducible refine wpAny_holding ?_
  refine wpAny_bind (wpAny_specialOf hT FB.slot_frozenset_contains.lookup ?_)
  show wpAny _ _ (if (some (Value.builtin "frozenset.__contains__") == some Value.none) = true then _ else _) _ E s
  rw [if_neg (by rw [beq_builtin_none]; exact Bool.false_ne_true)]
  refine wpAny_bind (wpAny_callSpecialUnlessNone?_slot (name := Str.ofString "__contains__") hT FB.slot_frozenset_contains
    (wpAny_call_entry FB.slot_frozenset_contains hT FB.entry_frozenset_contains ?_ (FB.args_frozenset_contains_2 _ _)))
  unfold Builtin.«frozenset.__contains__» Builtin.Frozenset.oneOther
  simp only [List.isEmpty_nil, bind_assoc]
  unfold Builtin.Frozenset.addrOf Builtin.Frozenset.withSetAsKey setContains
  refine wpAny_bind (wpAny_pure (wpAny_bind (wpAny_pure (wpAny_bind (wpAny_tryCatch (wpAny_holding (wpAny_bind ((PySem.intKind prog w).pyHash hkey ?_))))))))
  refine wpAny_bind (setFind_any (S := fun k => decide (k = 0)) (s := { s with toks := s.toks + 1 }) hkey rfl ho rfl ?_ ?_ (by simp [scanBound]) (by cases led <;> rfl) fun r hr => ?_)
  · intro e he
    simp at he; subst he
    exact ⟨⟨0, by simp [PySem.intKind, Value.isInt], by simp [PySem.intKind, hashInt, rawHash]⟩, rfl⟩
  · intro k'
    simp [PySem.intKind, Value.isInt]
    try exact eq_comm
  · refine wpAny_pure ?_
    show wpAny _ _ (ret (Value.bool r.isSome)) _ _ _
    rw [hr]
    exact wpAny_pure ⟨_, rfl, wpAny_truthy_bool (wpAny_pure h)⟩
end
abbrev tupO (vs : List Value) : Obj := { cls := .type "tuple", data := .seq vs.toArray }
def Runs (w : World) (f : Addr) (args : List Value) (pre : List (Addr × Obj)) (dd uu : Nat) (Post : Value → List (Addr × Obj) → Prop) : Prop :=
  ∀ (p : Program) (loose : List Str) (mean : ExcName → Option Value) (mg mb : Str → Option Value) (dp un : Nat) (gd : Option (List Code)) (cn : Str) (cs : Scope) (a : Addr) (ccd : Value) (cl : List (Str × Addr)) (outer : List Env) (A₀ : Around) (base h₀ : Heap) (L : Addr) (m : Str → Option Value) (s : Shared)
    (Q E : Value → Shared → Prop),
    Below A₀ base outer h₀ → Fr h₀ L s.heap m → (hd.heap_39 w.params).In h₀ → News h₀ L s.heap pre → Top p loose mean mg mb h₀ → cs.kind = .function → dp + dd < 1000 → un + uu < 9900 →
    (∀ r post h' tk', Fr h₀ L h' m → News h₀ L h' post → Post r post → Q r { s with heap := h', toks := tk' }) →
    wpAny (model PySem.Challenge.rw_xm0177_01.row.prog w) (ktrTop dp un gd cn cs L a ccd cl outer) (call (.ref f) args) Q E s
theorem runs_use {w : World} {f : Addr} {args : List Value} {pre : List (Addr × Obj)} {dd uu : Nat} {Post : Value → List (Addr × Obj) → Prop} {p : Program} {loose : List Str} {mean : ExcName → Option Value} {mg mb : Str → Option Value} {dp un : Nat} {gd : Option (List Code)} {cn : Str} {cs : Scope} {a : Addr} {ccd : Value} {cl : List (Str × Addr)} {outer : List Env} {A₀ : Around} {base h₀ : Heap} {L : Addr} {m : Str → Option Value} {s : Shared}
    {Q E : Value → Shared → Prop} (C : Runs w f args pre dd uu Post)
    (B : Below A₀ base outer h₀) (F : Fr h₀ L s.heap m) (X : (hd.heap_39 w.params).In h₀) (N : News h₀ L s.heap pre) (T : Top p loose mean mg mb h₀) (hk : cs.kind = .function) (hd : dp + dd < 1000) (hu : un + uu < 9900)
    (ret : ∀ r post h' tk', Fr h₀ L h' m → News h₀ L h' post → Post r post → Q r { s with heap := h', toks := tk' }) :
    wpAny (model PySem.Challenge.rw_xm0177_01.row.prog w) (ktrTop dp un gd cn cs L a ccd cl outer) (call (.ref f) args) Q E s := C _ _ _ _ _ _ _ _ _ _ _ _ _ _ _ _ _ _ _ _ _ _ B F X N T hk hd hu ret
theorem room_of {a : Nat} (h : a < 1000) : a < recursionLimit := h
theorem let_enter {M : Model} {A : Around} {b : List Stmt} {en : Env} {P : Flow → Shared → Prop} {E : Value → Shared → Prop} {s : Shared} (h : let M1 := M; let A1 := A; wpAny M1 A1 (execs b en) P E s) : wpAny M A (execs b en) P E s := h
theorem newsEq {h₀ h : Heap} {L : Addr} {p q : List (Addr × Obj)} (N : News h₀ L h p) (e : p = q) : News h₀ L h q := e ▸ N
theorem ex1 {α1 : Type} {p : α1 → Prop} {G : Prop} (k : ∀ x1, p x1 → G) (h : ∃ x1, p x1) : G := by
  obtain ⟨x1, q⟩ := h
  exact k x1 q
theorem ex2 {α1 α2 : Type} {p : α1 → α2 → Prop} {G : Prop} (k : ∀ x1 x2, p x1 x2 → G) (h : ∃ x1 x2, p x1 x2) : G := by
  obtain ⟨x1, x2, q⟩ := h
  exact k x1 x2 q
theorem ex3 {α1 α2 α3 : Type} {p : α1 → α2 → α3 → Prop} {G : Prop} (k : ∀ x1 x2 x3, p x1 x2 x3 → G) (h : ∃ x1 x2 x3, p x1 x2 x3) : G := by
  obtain ⟨x1, x2, x3, q⟩ := h
  exact k x1 x2 x3 q
theorem ex4 {α1 α2 α3 α4 : Type} {p : α1 → α2 → α3 → α4 → Prop} {G : Prop} (k : ∀ x1 x2 x3 x4, p x1 x2 x3 x4 → G) (h : ∃ x1 x2 x3 x4, p x1 x2 x3 x4) : G := by
  obtain ⟨x1, x2, x3, x4, q⟩ := h
  exact k x1 x2 x3 x4 q
theorem ex5 {α1 α2 α3 α4 α5 : Type} {p : α1 → α2 → α3 → α4 → α5 → Prop} {G : Prop} (k : ∀ x1 x2 x3 x4 x5, p x1 x2 x3 x4 x5 → G) (h : ∃ x1 x2 x3 x4 x5, p x1 x2 x3 x4 x5) : G := by
  obtain ⟨x1, x2, x3, x4, x5, q⟩ := h
  exact k x1 x2 x3 x4 x5 q
theorem ex6 {α1 α2 α3 α4 α5 α6 : Type} {p : α1 → α2 → α3 → α4 → α5 → α6 → Prop} {G : Prop} (k : ∀ x1 x2 x3 x4 x5 x6, p x1 x2 x3 x4 x5 x6 → G) (h : ∃ x1 x2 x3 x4 x5 x6, p x1 x2 x3 x4 x5 x6) : G := by
  obtain ⟨x1, x2, x3, x4, x5, x6, q⟩ := h
  exact k x1 x2 x3 x4 x5 x6 q
theorem ex7 {α1 α2 α3 α4 α5 α6 α7 : Type} {p : α1 → α2 → α3 → α4 → α5 → α6 → α7 → Prop} {G : Prop} (k : ∀ x1 x2 x3 x4 x5 x6 x7, p x1 x2 x3 x4 x5 x6 x7 → G) (h : ∃ x1 x2 x3 x4 x5 x6 x7, p x1 x2 x3 x4 x5 x6 x7) : G := by
  obtain ⟨x1, x2, x3, x4, x5, x6, x7, q⟩ := h
  exact k x1 x2 x3 x4 x5 x6 x7 q
theorem ex8 {α1 α2 α3 α4 α5 α6 α7 α8 : Type} {p : α1 → α2 → α3 → α4 → α5 → α6 → α7 → α8 → Prop} {G : Prop} (k : ∀ x1 x2 x3 x4 x5 x6 x7 x8, p x1 x2 x3 x4 x5 x6 x7 x8 → G) (h : ∃ x1 x2 x3 x4 x5 x6 x7 x8, p x1 x2 x3 x4 x5 x6 x7 x8) : G := by
  obtain ⟨x1, x2, x3, x4, x5, x6, x7, x8, q⟩ := h
  exact k x1 x2 x3 x4 x5 x6 x7 x8 q
theorem ex9 {α1 α2 α3 α4 α5 α6 α7 α8 α9 : Type} {p : α1 → α2 → α3 → α4 → α5 → α6 → α7 → α8 → α9 → Prop} {G : Prop} (k : ∀ x1 x2 x3 x4 x5 x6 x7 x8 x9, p x1 x2 x3 x4 x5 x6 x7 x8 x9 → G) (h : ∃ x1 x2 x3 x4 x5 x6 x7 x8 x9, p x1 x2 x3 x4 x5 x6 x7 x8 x9) : G := by
  obtain ⟨x1, x2, x3, x4, x5, x6, x7, x8, x9, q⟩ := h
  exact k x1 x2 x3 x4 x5 x6 x7 x8 x9 q
theorem an2 {A1 A2 G : Prop} (k : A1 → A2 → G) (h : A1 ∧ A2) : G := by
  obtain ⟨x1, x2⟩ := h
  exact k x1 x2
theorem an3 {A1 A2 A3 G : Prop} (k : A1 → A2 → A3 → G) (h : A1 ∧ A2 ∧ A3) : G := by
  obtain ⟨x1, x2, x3⟩ := h
  exact k x1 x2 x3
theorem an4 {A1 A2 A3 A4 G : Prop} (k : A1 → A2 → A3 → A4 → G) (h : A1 ∧ A2 ∧ A3 ∧ A4) : G := by
  obtain ⟨x1, x2, x3, x4⟩ := h
  exact k x1 x2 x3 x4
theorem an5 {A1 A2 A3 A4 A5 G : Prop} (k : A1 → A2 → A3 → A4 → A5 → G) (h : A1 ∧ A2 ∧ A3 ∧ A4 ∧ A5) : G := by
  obtain ⟨x1, x2, x3, x4, x5⟩ := h
  exact k x1 x2 x3 x4 x5
theorem an6 {A1 A2 A3 A4 A5 A6 G : Prop} (k : A1 → A2 → A3 → A4 → A5 → A6 → G) (h : A1 ∧ A2 ∧ A3 ∧ A4 ∧ A5 ∧ A6) : G := by
  obtain ⟨x1, x2, x3, x4, x5, x6⟩ := h
  exact k x1 x2 x3 x4 x5 x6
theorem an7 {A1 A2 A3 A4 A5 A6 A7 G : Prop} (k : A1 → A2 → A3 → A4 → A5 → A6 → A7 → G) (h : A1 ∧ A2 ∧ A3 ∧ A4 ∧ A5 ∧ A6 ∧ A7) : G := by
  obtain ⟨x1, x2, x3, x4, x5, x6, x7⟩ := h
  exact k x1 x2 x3 x4 x5 x6 x7
theorem an8 {A1 A2 A3 A4 A5 A6 A7 A8 G : Prop} (k : A1 → A2 → A3 → A4 → A5 → A6 → A7 → A8 → G) (h : A1 ∧ A2 ∧ A3 ∧ A4 ∧ A5 ∧ A6 ∧ A7 ∧ A8) : G := by
  obtain ⟨x1, x2, x3, x4, x5, x6, x7, x8⟩ := h
  exact k x1 x2 x3 x4 x5 x6 x7 x8
theorem an9 {A1 A2 A3 A4 A5 A6 A7 A8 A9 G : Prop} (k : A1 → A2 → A3 → A4 → A5 → A6 → A7 → A8 → A9 → G) (h : A1 ∧ A2 ∧ A3 ∧ A4 ∧ A5 ∧ A6 ∧ A7 ∧ A8 ∧ A9) : G := by
  obtain ⟨x1, x2, x3, x4, x5, x6, x7, x8, x9⟩ := h
  exact k x1 x2 x3 x4 x5 x6 x7 x8 x9
theorem rl1 {a n c N : Nat} (h : a + c < N) (e : Nat.ble n c = true) : a + n < N := Nat.lt_of_le_of_lt (Nat.add_le_add_left (Nat.le_of_ble_eq_true e) a) h
theorem rl2 {a n1 n2 c N : Nat} (h : a + c < N) (e : Nat.ble (n1 + n2) c = true) : a + n1 + n2 < N := by
  rw [Nat.add_assoc]; exact rl1 h e
theorem rl3 {a n1 n2 n3 c N : Nat} (h : a + c < N) (e : Nat.ble (n1 + n2 + n3) c = true) : a + n1 + n2 + n3 < N := by
  rw [Nat.add_assoc, Nat.add_assoc, ← Nat.add_assoc n1]; exact rl1 h e
theorem tok_gen {α : Type} {M : Model} {A : Around} {m : Sem α} {Q : α → Shared → Prop} {E : Value → Shared → Prop} {h g d t o} (k : ∀ t' : Nat, wpAny M A m Q E { heap := h, gens := g, drawn := d, toks := t', os := o }) : wpAny M A m Q E { heap := h, gens := g, drawn := d, toks := t, os := o } := k t
theorem units_make (A : Around) (C : Addr) (vals : List Value) (kw : List (Str × Value)) : (A.under (.builtin "type.__call__" ⟨.ref C :: vals, kw⟩)).units = A.units + 1 := rfl
section
variable {prog : Program} {w : World} {M : Model} {A : Around} {E : Value → Shared → Prop} {s : Shared} {h₀ : Heap} {L : Addr} {m : Str → Option Value} {news : List (Addr × Obj)} {vs : List Value} {Q : Value → Shared → Prop}
theorem dropTuple (F : Fr h₀ L s.heap m) (N : News h₀ L s.heap news) (h : ∀ D h', Fr h₀ L h' m → News h₀ L h' news → Q (.ref D) { s with heap := h' }) (hz : vs.length ≤ sizeLine) : wpAny M A (newTuple vs) Q E s :=
  newTuple_N F N (fun h' F' N' => h _ h' F' fun p hp => N' p (.tail _ hp)) hz
theorem dropList (F : Fr h₀ L s.heap m) (N : News h₀ L s.heap news) (h : ∀ D h', Fr h₀ L h' m → News h₀ L h' news → Q (.ref D) { s with heap := h' }) (hz : vs.length ≤ sizeLine) : wpAny M A (newList vs) Q E s :=
  newList_N F N (fun h' F' N' => h _ h' F' fun p hp => N' p (.tail _ hp)) hz
theorem dropDict {env : Env} {pos : Pos} (F : Fr h₀ L s.heap m) (N : News h₀ L s.heap news) (hbig : h₀.NoLimit)
    (h : ∀ D h', Fr h₀ L h' m → News h₀ L h' news → Q (.ref D) { s with heap := h' }) : wpAny (model prog w) A (eval (.Dict [] [] pos) env) Q E s :=
  newDict_K F N hbig fun d h' o F' N' _ _ _ _ _ _ => h d h' F' fun p hp => N' p (.tail _ hp)
theorem News.drop {a : Addr} {o : Obj} {h : Heap} (N : News h₀ L h ((a, o) :: news)) : News h₀ L h news := fun p hp => N p (.tail _ hp)
theorem kdn_made_drop (F : Fr h₀ L s.heap m) {d : Addr} {o : Obj} {kvs : List (Value × Value)} (N : News h₀ L s.heap ((d, o) :: news)) (hd : o.IsDictOf (PySem.strKind prog w) []) (hk : allStrKeys kvs = true) (hn : ((strPairs kvs).map (·.1)).Nodup) (hap : ∀ p ∈ news, p.1 ≠ d)
    (h : ∀ h', Fr h₀ L h' m → News h₀ L h' news → Q (.ref d) { s with heap := h', toks := s.toks + kvs.length }) : KdnMade prog w (PySem.strKind prog w) d Q kvs s :=
  kdn_made_str (g := fun o' => (d, o') :: news) F N (UpdF.head hap) hd hk hn fun h' o' F' N' _ => h h' F' fun p hp => N' p (.tail _ hp)
end
local macro_rules | `(tactic| walk_at $s:str) => `(tactic| k_extra $s)
local macro_rules | `(tactic| k_all) => `(tactic| k_extra "k_all")
local macro_rules | `(tactic| ktr_room) => `(tactic| k_extra "ktr_room")
local macro_rules | `(tactic| ktr_enter) => `(tactic| k_extra "ktr_enter")
local macro_rules | `(tactic| ktr_units) => `(tactic| k_extra "ktr_units")
local macro_rules | `(tactic| k_mem) => `(tactic| k_extra "k_mem")
local macro_rules | `(tactic| k_get) => `(tactic| k_extra "k_get")
local macro_rules | `(tactic| kcf_m) => `(tactic| k_extra "kcf_m")
local macro_rules | `(tactic| k_offL) => `(tactic| k_extra "k_offL")
theorem w_C3_0 : True := by
  w_top off
  k_with_none
  k_with "k_all" => (assumption)
  k_with "eval Dict" => (k_here; k_dflt (first
  | (refine' kdn_str ?q ?F ?N ?b ?a ?l ?e ?n ?_; (case q => rfl); (case F => k_asm); (case N => first | k_asm | exact News.nil); (case b => exact Top.nolimit (by k_asm)); (case a => rfl); (case l => rfl); (case e => exact List.cons_ne_nil _ _); (case n => exact Nat.le_of_ble_eq_true rfl))
  | (refine' kdn_int ?q ?F ?N ?b ?a ?l ?e ?n ?_; (case q => rfl); (case F => k_asm); (case N => first | k_asm | exact News.nil); (case b => exact Top.nolimit (by k_asm)); (case a => rfl); (case l => rfl); (case e => exact List.cons_ne_nil _ _); (case n => exact Nat.le_of_ble_eq_true rfl))); intro d' h' o' F' N' l1 lo' hd'; (try k_lt l1))
  k_with "eval Dict nil nil" => (k_here; k_dflt (refine' newDict_K ?k1 ?k2 (TopRead.nolimit (by k_asm)) ?_; (case k1 => k_asm); (case k2 => k_asm); k_whole); intro d' h' o' F' N' l1 lo' hs' fs' hi' fi'; (try k_lt l1); (try k_sweep))
  k_with "ktr_room" => (refine room_of ?_; (try simp +zetaDelta only [depth_under_make, depth_under_kw, depth_in1, depth_deeper]); (try dsimp only [ktrTop]); (first | exact rl1 (by assumption) (by exact rfl) | exact rl2 (by assumption) (by exact rfl) | exact rl3 (by assumption) (by exact rfl) | omega))
  k_with "ktr_enter" => (refine' code_def ?k1 ?k2 ?k3 ?k4 ?k5 ?kA ?kF ?kK ?k6 ?k7 ?k8 ?k9 ?kB ?_ ?c2 ?c3 ?c4 ?c5; (case kA => exact rfl); (case kF => exact rfl); (case kK => first | exact rfl | assumption); (case k1 => k_asm); (case k2 => k_asm); (case k3 => k_asm); (case k4 => k_asm); (case k5 => k_asm); (case k6 => k_is); (case k7 => k_is); (case k8 => ktr_room); (case k9 => first | exact BindsTo.of_eq rfl | exact binds_K (by k_in) rfl (by k_is) rfl rfl rfl); (case c5 => decide); (case kB => exact locs rfl); (case c2 => exact rfl); (case c3 => exact rfl); (case c4 => exact rfl); k_whole; intro g' L' h' FG' F' N' B' X' T'; (try dsimp only); (try k_fold); (try (refine let_enter ?_; intro M1 A1)))
  k_with "call ref" => (k_here; k_dflt (first
  | (refine' call_cls0 ?k1 ?k2 ?k3 ?k4 ?k5 ?_; (case k1 => k_asm); (case k2 => k_asm); (case k3 => k_asm); (case k4 => k_is); (case k5 => k_is); k_whole; intro x' d' h' F' N' l1 l2; (try k_lt l1); (try k_lt2 l2); (try k_sweep))
  | (refine' call_cls ?k1 ?k2 ?k3 ?k4 ?k5 ?k6 ?_; (case k1 => k_asm); (case k2 => k_asm); (case k3 => k_asm); (case k4 => k_is); (case k5 => k_is); (case k6 => k_is); k_whole; intro x' d' h' F' N' l1 l2; (try k_lt l1); (try k_lt2 l2); (try k_sweep); ktr_enter)
  | (refine' call_meth ?k1 ?k2 ?_; (case k1 => k_asm); (case k2 => k_mem); k_whole; ktr_enter)
  | (refine wpAny_call ?_; ktr_enter)))
  k_with "ktr_units" => ((try simp +zetaDelta only [units_in1, units_deeper, Around.mark_units, units_make]); (try dsimp only [ktrTop]); first | exact rl1 (by assumption) (by exact rfl) | exact rl2 (by assumption) (by exact rfl) | exact rl3 (by assumption) (by exact rfl) | omega | ((show _ < (9900 : Nat)); omega))
  k_with "call type:frozenset" => (k_here; k_dflt (refine' fz_call ?F ?N ?m ?d ?z ?_; (case F => k_asm); (case N => k_asm); (case m => k_mem); (case d => k_asm); (case z => k_asm)); intro D' h' tq' led' F' N' l1; (try k_lt l1))
  k_with "compareOp In int ref" => (k_here; k_dflt (refine' fz_in ?N ?m ?_; (case N => k_asm); (case m => k_mem)))
  k_with "newTuple" => (k_here; k_dflt (refine' dropTuple ?F ?N ?_ ?z; (case F => k_asm); (case N => k_asm); (case z => kmk_size)); intro D' h' F' N'; (try k_sweep))
  k_with "newList" => (k_here; k_dflt (refine' dropList ?F ?N ?_ ?z; (case F => k_asm); (case N => k_asm); (case z => kmk_size)); intro D' h' F' N'; (try k_sweep))
  k_with "eval Dict nil nil" => (k_here; k_dflt (refine' dropDict ?F ?N (TopRead.nolimit (by k_asm)) ?_; (case F => k_asm); (case N => k_asm)); intro D' h' F' N'; (try k_sweep))
  k_with "KdnMade" => (k_here; k_dflt (refine' kdn_made_drop ?F ?N ?d ?k ?n ?U ?_; (case F => k_asm); (case N => k_asm); (case U => k_all); (case d => k_asm); (case k => rfl); (case n => exact of_decide_eq_true (by first | rfl | kernel_rfl!)); intro h' F' N'))
  k_with "eval Call" => (k_fold; (try (refine tok_gen ?_; intro tkz)))
  k_with "eval Call Attribute" => (k_fold; (try (refine tok_gen ?_; intro tkz)))
  k_with "eval Tuple" => (k_fold; (try (refine tok_gen ?_; intro tkz)))
  trivial
theorem c_named (w : World) (rest : List (Addr × Obj)) (a b c d : Value) : Runs w 372 [a, b, c, d] rest 3 20 (fun r post => (∃ d, r = .ref d) ∧ post = rest) := by
  unfold Runs
  k_fill
  intro p loose mean mg mb dp un gd cn cs a ccd cl outer A₀ base h₀ L m s Q E B F X N T hk hd hu ret
  k_steps
  exact ret _ _ _ _ (by k_asm) (fun p hp => (by assumption : News _ _ _ _) p (.tail _ (.tail _ hp))) ⟨⟨_, rfl⟩, rfl⟩
theorem w_C3_1 : True := by
  k_with "call ref" => (k_here; k_dflt (refine' runs_use (c_named _ _ _ _ _ _) ?B ?F ?X ?N ?T ?k ?d ?u ?_; (case B => k_asm); (case F => k_asm); (case X => k_asm); (case N => k_asm); (case T => k_asm); (case k => exact rfl); (case d => ((try simp +zetaDelta only [depth_under_make, depth_under_kw, depth_in1, depth_deeper]); (try dsimp only [ktrTop]); (first | exact rl1 (by assumption) (by exact rfl) | exact rl2 (by assumption) (by exact rfl) | exact rl3 (by assumption) (by exact rfl) | omega))); (case u => ktr_units); intro r9 post9 h9 tk9 F' N' P9; revert P9; (refine an2 ?_); intro P9 e8; revert P9; (refine ex1 ?_); intro d9 e9; subst e9; (replace N' := newsEq N' e8); (first | clear e8 post9 | subst e8); (try dsimp only); (try k_sweep)))
  trivial
theorem c_known (w : World) (rest : List (Addr × Obj)) : Runs w 383 [] rest 8 40 (fun r post => (∃ d, r = .ref d) ∧ post = rest) := by
  unfold Runs
  k_fill
  intro p loose mean mg mb dp un gd cn cs a ccd cl outer A₀ base h₀ L m s Q E B F X N T hk hd hu ret
  k_steps
  exact ret _ _ _ _ (by k_asm) (by k_asm) ⟨⟨_, rfl⟩, rfl⟩
theorem w_C3_2 : True := by
  k_with "call ref" => (k_here; k_dflt (refine' runs_use (c_known _ _) ?B ?F ?X ?N ?T ?k ?d ?u ?_; (case B => k_asm); (case F => k_asm); (case X => k_asm); (case N => k_asm); (case T => k_asm); (case k => exact rfl); (case d => ((try simp +zetaDelta only [depth_under_make, depth_under_kw, depth_in1, depth_deeper]); (try dsimp only [ktrTop]); (first | exact rl1 (by assumption) (by exact rfl) | exact rl2 (by assumption) (by exact rfl) | exact rl3 (by assumption) (by exact rfl) | omega))); (case u => ktr_units); intro r9 post9 h9 tk9 F' N' P9; revert P9; (refine an2 ?_); intro P9 e8; revert P9; (refine ex1 ?_); intro d9 e9; subst e9; (replace N' := newsEq N' e8); (first | clear e8 post9 | subst e8); (try dsimp only); (try k_sweep)))
  trivial
theorem c_world (w : World) (rest : List (Addr × Obj)) : Runs w 415 [] rest 14 60 (fun r post => ∃ x dx es n, r = .ref x ∧ post = (x, instObj 415 dx) :: (dx, dictOf es n) :: rest ∧ (∀ p ∈ rest, p.1 < dx) ∧ dx < x ∧ getL "base_of" es = some none) := by
  unfold Runs
  k_fill
  intro p loose mean mg mb dp un gd cn cs a ccd cl outer A₀ base h₀ L m s Q E B F X N T hk hd hu ret
  k_steps
  refine ret _ _ _ _ (by k_asm) (by k_asm) ⟨_, _, _, _, rfl, rfl, ?_, ?_, by k_get⟩
  all_goals first | assumption | omega
theorem w_C5_0 : True := by
  w_top off
  k_with_none
  k_with "k_all" => (assumption)
  k_with "eval Dict" => (k_here; k_dflt (first
  | (refine' kdn_str ?q ?F ?N ?b ?a ?l ?e ?n ?_; (case q => rfl); (case F => k_asm); (case N => first | k_asm | exact News.nil); (case b => exact Top.nolimit (by k_asm)); (case a => rfl); (case l => rfl); (case e => exact List.cons_ne_nil _ _); (case n => exact Nat.le_of_ble_eq_true rfl))
  | (refine' kdn_int ?q ?F ?N ?b ?a ?l ?e ?n ?_; (case q => rfl); (case F => k_asm); (case N => first | k_asm | exact News.nil); (case b => exact Top.nolimit (by k_asm)); (case a => rfl); (case l => rfl); (case e => exact List.cons_ne_nil _ _); (case n => exact Nat.le_of_ble_eq_true rfl))); intro d' h' o' F' N' l1 lo' hd'; (try k_lt l1))
  k_with "eval Dict nil nil" => (k_here; k_dflt (refine' newDict_K ?k1 ?k2 (TopRead.nolimit (by k_asm)) ?_; (case k1 => k_asm); (case k2 => k_asm); k_whole); intro d' h' o' F' N' l1 lo' hs' fs' hi' fi'; (try k_lt l1); (try k_sweep))
  k_with "ktr_room" => (refine room_of ?_; (try simp +zetaDelta only [depth_under_make, depth_under_kw, depth_in1, depth_deeper]); (try dsimp only [ktrTop]); (first | exact rl1 (by assumption) (by exact rfl) | exact rl2 (by assumption) (by exact rfl) | exact rl3 (by assumption) (by exact rfl) | omega))
  k_with "ktr_enter" => (refine' code_def ?k1 ?k2 ?k3 ?k4 ?k5 ?kA ?kF ?kK ?k6 ?k7 ?k8 ?k9 ?kB ?_ ?c2 ?c3 ?c4 ?c5; (case kA => exact rfl); (case kF => exact rfl); (case kK => first | exact rfl | assumption); (case k1 => k_asm); (case k2 => k_asm); (case k3 => k_asm); (case k4 => k_asm); (case k5 => k_asm); (case k6 => k_is); (case k7 => k_is); (case k8 => ktr_room); (case k9 => first | exact BindsTo.of_eq rfl | exact binds_K (by k_in) rfl (by k_is) rfl rfl rfl); (case c5 => decide); (case kB => exact locs rfl); (case c2 => exact rfl); (case c3 => exact rfl); (case c4 => exact rfl); k_whole; intro g' L' h' FG' F' N' B' X' T'; (try dsimp only); (try k_fold); (try (refine let_enter ?_; intro M1 A1)))
  k_with "call ref" => (k_here; k_dflt (first
  | (refine' call_cls0 ?k1 ?k2 ?k3 ?k4 ?k5 ?_; (case k1 => k_asm); (case k2 => k_asm); (case k3 => k_asm); (case k4 => k_is); (case k5 => k_is); k_whole; intro x' d' h' F' N' l1 l2; (try k_lt l1); (try k_lt2 l2); (try k_sweep))
  | (refine' call_cls ?k1 ?k2 ?k3 ?k4 ?k5 ?k6 ?_; (case k1 => k_asm); (case k2 => k_asm); (case k3 => k_asm); (case k4 => k_is); (case k5 => k_is); (case k6 => k_is); k_whole; intro x' d' h' F' N' l1 l2; (try k_lt l1); (try k_lt2 l2); (try k_sweep); ktr_enter)
  | (refine' call_meth ?k1 ?k2 ?_; (case k1 => k_asm); (case k2 => k_mem); k_whole; ktr_enter)
  | (refine wpAny_call ?_; ktr_enter)))
  k_with "ktr_units" => ((try simp +zetaDelta only [units_in1, units_deeper, Around.mark_units, units_make]); (try dsimp only [ktrTop]); first | exact rl1 (by assumption) (by exact rfl) | exact rl2 (by assumption) (by exact rfl) | exact rl3 (by assumption) (by exact rfl) | omega | ((show _ < (9900 : Nat)); omega))
  k_with "call type:frozenset" => (k_here; k_dflt (refine' fz_call ?F ?N ?m ?d ?z ?_; (case F => k_asm); (case N => k_asm); (case m => k_mem); (case d => k_asm); (case z => k_asm)); intro D' h' tq' led' F' N' l1; (try k_lt l1))
  k_with "compareOp In int ref" => (k_here; k_dflt (refine' fz_in ?N ?m ?_; (case N => k_asm); (case m => k_mem)))
  k_with "call type:list" => (k_here; (with_reducible show wpAny _ _ (call (Value.type "list") [Value.ref _]) _ _ _); k_dflt (refine' list_copyK ?k1 ?k2 ?k3 ?_ ?z; (case k1 => k_asm); (case k2 => k_asm); (case k3 => exact News.isList (by k_asm) (by k_mem)); (case z => first | exact Nat.le_of_ble_eq_true rfl | omega); k_whole); intro D' c' h' F' N' l1; (try k_lt l1); (try k_sweep))
  k_with "k_mem" => (first
  | with_reducible assumption
  | exact List.mem_cons_self
  | (refine List.mem_cons_of_mem _ ?_; k_mem)
  | (refine List.mem_append.mpr (Or.inl ?_); k_mem)
  | (refine List.mem_append.mpr (Or.inr ?_); k_mem))
  k_with "eval Call" => (k_fold; (try (refine tok_gen ?_; intro tkz)))
  k_with "eval Call Attribute" => (k_fold; (try (refine tok_gen ?_; intro tkz)))
  k_with "eval Tuple" => (k_fold; (try (refine tok_gen ?_; intro tkz)))
  trivial
theorem c_typed (w : World) (rest : List (Addr × Obj)) (key rows params results captured body literals : Value) : Runs w 87 [key, rows, params, results, captured, body, literals] rest 3 20 (fun r post => ∃ x dx es n, r = .ref x ∧ post = (x, instObj 87 dx) :: (dx, dictOf es n) :: rest ∧ (∀ p ∈ rest, p.1 < dx) ∧ dx < x ∧
    getL "locals" es = some (some rows) ∧ getL "key" es = some (some key) ∧ getL "params" es = some (some params) ∧ getL "captured" es = some (some captured) ∧ getL "results" es = some (some results)) := by
  unfold Runs
  k_fill
  intro p loose mean mg mb dp un gd cn cs a ccd cl outer A₀ base h₀ L m s Q E B F X N T hk hd hu ret
  k_steps
  refine ret _ _ _ _ (by k_asm) (by k_asm) ⟨_, _, _, _, rfl, rfl, ?_, ?_, by k_get, by k_get, by k_get, by k_get, by k_get⟩
  all_goals first | assumption | exact ltN (by omega)
theorem c_code (w : World) (rest : List (Addr × Obj)) (key params blocks captured results : Value) (ra : Addr) (k : Nat) (hm : (ra, listOf #[] k) ∈ rest) : Runs w 128 [key, params, .ref ra, blocks, captured, results] rest 4 30 (fun r post => ∃ x dx es n lr k, r = .ref x ∧ post = (lr, listOf #[] k) :: (x, instObj 128 dx) :: (dx, dictOf es n) :: rest ∧ (∀ p ∈ rest, p.1 < dx) ∧ dx < x ∧ x < lr ∧
    getL "registers" es = some (some (.ref lr)) ∧ getL "blocks" es = some (some blocks) ∧ getL "instructions" es = some none) := by
  unfold Runs
  k_fill
  intro p loose mean mg mb dp un gd cn cs a ccd cl outer A₀ base h₀ L m s Q E B F X N T hk hd hu ret
  k_steps
  refine ret _ _ _ _ (by k_asm) (by k_asm) ⟨_, _, _, _, _, _, rfl, rfl, ?_, ?_, ?_, by k_get, by k_get, by k_get⟩
  all_goals first | assumption | exact ltN (by omega)
theorem sub_cons {r l : List (Addr × Obj)} {a : Addr × Obj} (h : ∀ p ∈ r, p ∈ l) : ∀ p ∈ r, p ∈ a :: l := fun p hp => List.mem_cons_of_mem _ (h p hp)
theorem News.sub {h₀ h : Heap} {L : Addr} {l l' : List (Addr × Obj)} (N : News h₀ L h l) (s : ∀ p ∈ l', p ∈ l) : News h₀ L h l' := fun p hp => N p (s p hp)
local macro_rules | `(tactic| kat_tups) => `(tactic| first
  | exact fun _ h => h
  | (refine List.forall_mem_cons.mpr ⟨?a, ?b⟩; (case a => k_mem); (case b => kat_tups))
  | (refine sub_cons ?_; kat_tups))
inductive LowerP (w : World) (wld kn : Value) (tf : Addr) (rest : List (Addr × Obj)) : Value → List (Addr × Obj) → Prop
  | mk {st dst : Addr} {es : List DictEntry} {nes : Nat} {bx : Addr} {tq : Tok} {led : Bool} {hd : Addr} {ohd : Obj} {cd dcd : Addr} {ecd : List DictEntry} {ncd : Nat} {lr : Addr} {kr : Nat} {lb : Addr} {kb : Nat} {b0 : Addr} {kb0 : Nat} {li : Addr} {kl : Nat} {t0 : Tok} :
    getL "world" es = some (some (wld)) → getL "typed_fn" es = some (some (.ref tf)) → getL "boxed" es = some (some (.ref bx)) → getL "known" es = some (some (kn)) → getL "held" es = some (some (.ref hd)) → getL "code" es = some (some (.ref cd)) → getL "here" es = some (some (.int 0 t0)) → getL "fresh" es = some none → getL "new_register" es = some none → getL "put" es = some none → getL "kept" es = some none → getL "value" es = some none → getL "local_value" es = some none → getL "pointer_of" es = some none → getL "is_boxed" es = some none → getL "type_of_local" es = some none → getL "take_register" es = some none → getL "registers" ecd = some (some (.ref lr)) → getL "blocks" ecd = some (some (.ref lb)) → getL "instructions" ecd = some none → ohd.IsDictOf (PySem.intKind PySem.Challenge.rw_xm0177_01.row.prog w) [] → PyProof.V.FlatPairs PyData.int ([] : List (Int × Value)) [] → (hd == sysModules) = false →
    (∀ p ∈ rest, p.1 < dst) → dst < st → st < bx → bx < hd → hd < lb → lb < dcd → dcd < cd → cd < lr → lr < li → li < b0 →
    LowerP w wld kn tf rest (.ref st) ((st, instObj 303 dst) :: (dst, dictOf es nes) :: (cd, instObj 128 dcd) :: (dcd, dictOf ecd ncd) :: (bx, frozO #[(0, .int 0 tq)] 1 (tab1 led)) :: (hd, ohd) :: (lr, listOf #[] kr) :: (lb, listOf #[.ref b0] kb) :: (b0, listOf #[.ref li, .none] kb0) :: (li, listOf #[] kl) :: rest)
theorem w_C6_0 : True := by
  w_top off
  k_with_none
  k_with "k_all" => (assumption)
  k_with "eval Dict" => (k_here; k_dflt (first
  | (refine' kdn_str ?q ?F ?N ?b ?a ?l ?e ?n ?_; (case q => rfl); (case F => k_asm); (case N => first | k_asm | exact News.nil); (case b => exact Top.nolimit (by k_asm)); (case a => rfl); (case l => rfl); (case e => exact List.cons_ne_nil _ _); (case n => exact Nat.le_of_ble_eq_true rfl))
  | (refine' kdn_int ?q ?F ?N ?b ?a ?l ?e ?n ?_; (case q => rfl); (case F => k_asm); (case N => first | k_asm | exact News.nil); (case b => exact Top.nolimit (by k_asm)); (case a => rfl); (case l => rfl); (case e => exact List.cons_ne_nil _ _); (case n => exact Nat.le_of_ble_eq_true rfl))); intro d' h' o' F' N' l1 lo' hd'; (try k_lt l1))
  k_with "eval Dict nil nil" => (k_here; k_dflt (refine' newDict_K ?k1 ?k2 (TopRead.nolimit (by k_asm)) ?_; (case k1 => k_asm); (case k2 => k_asm); k_whole); intro d' h' o' F' N' l1 lo' hs' fs' hi' fi'; (try k_lt l1); (try k_sweep))
  k_with "ktr_room" => (refine room_of ?_; (try simp +zetaDelta only [depth_under_make, depth_under_kw, depth_in1, depth_deeper]); (try dsimp only [ktrTop]); (first | exact rl1 (by assumption) (by exact rfl) | exact rl2 (by assumption) (by exact rfl) | exact rl3 (by assumption) (by exact rfl) | omega))
  k_with "ktr_enter" => (refine' code_def ?k1 ?k2 ?k3 ?k4 ?k5 ?kA ?kF ?kK ?k6 ?k7 ?k8 ?k9 ?kB ?_ ?c2 ?c3 ?c4 ?c5; (case kA => exact rfl); (case kF => exact rfl); (case kK => first | exact rfl | assumption); (case k1 => k_asm); (case k2 => k_asm); (case k3 => k_asm); (case k4 => k_asm); (case k5 => k_asm); (case k6 => k_is); (case k7 => k_is); (case k8 => ktr_room); (case k9 => first | exact BindsTo.of_eq rfl | exact binds_K (by k_in) rfl (by k_is) rfl rfl rfl); (case c5 => decide); (case kB => exact locs rfl); (case c2 => exact rfl); (case c3 => exact rfl); (case c4 => exact rfl); k_whole; intro g' L' h' FG' F' N' B' X' T'; (try dsimp only); (try k_fold); (try (refine let_enter ?_; intro M1 A1)))
  k_with "call ref" => (k_here; k_dflt (first
  | (refine wpAny_call ?_; ktr_enter)
  | (refine' call_cls0 ?k1 ?k2 ?k3 ?k4 ?k5 ?_; (case k1 => k_asm); (case k2 => k_asm); (case k3 => k_asm); (case k4 => k_is); (case k5 => k_is); k_whole; intro x' d' h' F' N' l1 l2; (try k_lt l1); (try k_lt2 l2); (try k_sweep))
  | (refine' call_cls ?k1 ?k2 ?k3 ?k4 ?k5 ?k6 ?_; (case k1 => k_asm); (case k2 => k_asm); (case k3 => k_asm); (case k4 => k_is); (case k5 => k_is); (case k6 => k_is); k_whole; intro x' d' h' F' N' l1 l2; (try k_lt l1); (try k_lt2 l2); (try k_sweep); ktr_enter)
  | (refine' call_meth ?k1 ?k2 ?_; (case k1 => k_asm); (case k2 => k_mem); k_whole; ktr_enter)))
  k_with "ktr_units" => ((try simp +zetaDelta only [units_in1, units_deeper, Around.mark_units, units_make]); (try dsimp only [ktrTop]); first | exact rl1 (by assumption) (by exact rfl) | exact rl2 (by assumption) (by exact rfl) | exact rl3 (by assumption) (by exact rfl) | omega | ((show _ < (9900 : Nat)); omega))
  k_with "call type:frozenset" => (k_here; k_dflt (refine' fz_call ?F ?N ?m ?d ?z ?_; (case F => k_asm); (case N => k_asm); (case m => k_mem); (case d => k_asm); (case z => k_asm)); intro D' h' tq' led' F' N' l1; (try k_lt l1))
  k_with "compareOp In int ref" => (k_here; k_dflt (refine' fz_in ?N ?m ?_; (case N => k_asm); (case m => k_mem)))
  k_with "call type:list" => (k_here; (with_reducible show wpAny _ _ (call (Value.type "list") [Value.ref _]) _ _ _); k_dflt (refine' list_copyK ?k1 ?k2 ?k3 ?_ ?z; (case k1 => k_asm); (case k2 => k_asm); (case k3 => exact News.isList (by k_asm) (by k_mem)); (case z => first | exact Nat.le_of_ble_eq_true rfl | omega); k_whole); intro D' c' h' F' N' l1; (try k_lt l1); (try k_sweep))
  k_with "k_mem" => (with_reducible kcf_m)
  k_with "k_get" => (with_reducible assumption)
  k_with "call ref" => (k_here; (with_reducible show wpAny _ _ (call (Value.ref 128) _) _ _ _); k_dflt (refine' runs_use (c_code _ _ _ _ _ _ _ _ _ ?hm) ?B ?F ?X ?N ?T ?k ?d ?u ?_; (case B => k_asm); (case F => k_asm); (case X => k_asm); (case N => k_asm); (case hm => k_mem); (case T => k_asm); (case k => exact rfl); (case d => ((try simp +zetaDelta only [depth_under_make, depth_under_kw, depth_in1, depth_deeper]); (try dsimp only [ktrTop]); (first | exact rl1 (by assumption) (by exact rfl) | exact rl2 (by assumption) (by exact rfl) | exact rl3 (by assumption) (by exact rfl) | omega))); (case u => ktr_units); intro r9 post9 h9 tk9 F' N' P9; revert P9; (refine ex6 ?_); intro x9 dx9 es9 n9 lr9 k9 P9; revert P9; (refine an8 ?_); intro e9 e8 lt9 ltx9 lty9 ga9 gb9 gc9; subst e9; (replace N' := newsEq N' e8); (first | clear e8 post9 | subst e8); (try k_lt lt9); (try k_lt2 ltx9); (try k_lt2 lty9); (try dsimp only); (try k_sweep)))
  k_with "eval Call" => (k_fold; (try (refine tok_gen ?_; intro tkz)))
  k_with "eval Call Attribute" => (k_fold; (try (refine tok_gen ?_; intro tkz)))
  k_with "eval Tuple" => (k_fold; (try (refine tok_gen ?_; intro tkz)))
  trivial
theorem c_lower (w : World) (rest : List (Addr × Obj)) (wld : Value) (tf dtf : Addr) (etf : List DictEntry) (ntf : Nat) (dbx : Addr) (obx : Obj) (val kn : Value) (key : Str) (tkey : Tok) (pa pb pc : Addr)
   (h1 : (tf, instObj 87 dtf) ∈ rest) (h2 : (dtf, dictOf etf ntf) ∈ rest) (h3 : getL "key" etf = some (some (.str key tkey))) (h4 : getL "params" etf = some (some (.ref pa))) (h5 : getL "captured" etf = some (some (.ref pb))) (h6 : getL "results" etf = some (some (.ref pc)))
   (h7 : (pa, tupO []) ∈ rest) (h8 : (pb, tupO []) ∈ rest) (h9 : (pc, tupO []) ∈ rest) (h10 : (dbx, obx) ∈ rest) (h11 : obx.IsDictOf (PySem.intKind PySem.Challenge.rw_xm0177_01.row.prog w) [(0, val)]) (h12 : (dbx == sysModules) = false) :
  Runs w 303 [wld, .ref tf, .ref dbx, kn] rest 12 60 (LowerP w wld kn tf rest) := by
  unfold Runs
  k_fill
  intro p loose mean mg mb dp un gd cn cs a ccd cl outer A₀ base h₀ L m s Q E B F X N T hk hd hu ret
  k_steps
  refine' ret _ _ _ _ ?F9 (News.sub ?N9 (List.forall_mem_cons.mpr ⟨?m1, List.forall_mem_cons.mpr ⟨?m2, List.forall_mem_cons.mpr ⟨?m3, List.forall_mem_cons.mpr ⟨?m4, List.forall_mem_cons.mpr ⟨?m5, List.forall_mem_cons.mpr ⟨?m6, List.forall_mem_cons.mpr ⟨?m7, List.forall_mem_cons.mpr ⟨?m8, List.forall_mem_cons.mpr ⟨?m9, List.forall_mem_cons.mpr ⟨?m10, ?mr⟩⟩⟩⟩⟩⟩⟩⟩⟩⟩)) (LowerP.mk ?g0 ?g1 ?g2 ?g3 ?g4 ?g5 ?g6 ?g7 ?g8 ?g9 ?g10 ?g11 ?g12 ?g13 ?g14 ?g15 ?g16 ?c0 ?c1 ?c2 ?d1 ?d2 ?d3 ?o0 ?o1 ?o2 ?o3 ?o4 ?o5 ?o6 ?o7 ?o8 ?o9)
  case F9 => k_asm
  case N9 => k_asm
  case m1 => k_mem
  case m2 => k_mem
  case g5 => k_get
  case m3 => k_mem
  case m4 => k_mem
  case c0 => k_get
  case c1 => k_get
  case g2 => k_get
  case g4 => k_get
  case m5 => k_mem
  case m6 => k_mem
  case m7 => k_mem
  case m8 => kcf_m
  case m9 => k_mem
  case m10 => k_mem
  case mr => kat_tups
  case d1 => assumption
  case d2 => assumption
  case d3 => assumption
  case g6 => k_get
  all_goals first | k_get | assumption | exact ltN (by omega)
section
variable {prog : Program} {w : World} {A : Around} {E : Value → Shared → Prop} {s : Shared} {h₀ : Heap} {L : Addr} {m : Str → Option Value} {news : List (Addr × Obj)}
theorem dict_get {K : Type} [DecidableEq K] {knd : KeyKind prog w K} {d : Addr} {o : Obj} {kvs : List (K × Value)} {k : K} {key v : Value} {Q : Value → Shared → Prop} (N : News h₀ L s.heap news) (hm : (d, o) ∈ news) (hd : o.IsDictOf knd kvs) (hkey : knd.is k key = true) (hv : valueAt kvs k = some v)
    (h : Q v { s with toks := s.toks + 1 }) : wpAny (model prog w) A (getItem (.ref d) key) Q E s :=
  wpAny_getItem_of hkey (Heap.dictOf_iff.mpr ⟨o, N.get hm, hd⟩).mapOf hv h
theorem dict_tail {K : Type} [DecidableEq K] {knd : KeyKind prog w K} {d : Addr} {o : Obj} {kvs : List (K × Value)} {k : K} {key v : Value} {value slice : Expr} {Q : Value → Shared → Prop} (N : News h₀ L s.heap news) (hm : (d, o) ∈ news) (hd : o.IsDictOf knd kvs) (hkey : knd.is k key = true) (hv : valueAt kvs k = some v)
    (h : Q v { s with toks := s.toks + 1 }) (hs : subscripted slice false (.ref d) key = operate [.ref d, key] (getItem (.ref d) key)) : wpAny (model prog w) A (subscriptTail value slice (.ref d) key) Q E s :=
  tail_any (Heap.dictOf_iff.mpr ⟨o, N.get hm, hd⟩).typeIs slot_dict_getitem.lookup (dict_get N hm hd hkey hv h) hs
theorem dict_set {K : Type} [DecidableEq K] {knd : KeyKind prog w K} {d : Addr} {o : Obj} {g : Obj → List (Addr × Obj)} {kvs : List (K × Value)} {k : K} {key v : Value} {Q : Unit → Shared → Prop} (F : Fr h₀ L s.heap m) (N : News h₀ L s.heap news) (U : UpdF d o news g) (hd : o.IsDictOf knd kvs) (hkey : knd.is k key = true)
    (h : ∀ h' o', Fr h₀ L h' m → News h₀ L h' (g o') → o'.IsDictOf knd (stored kvs k v) → Q () { s with heap := h', toks := s.toks + 1 }) (hz : kvs.length ≤ sizeLine) : wpAny (model prog w) A (setItem (.ref d) key v) Q E s := by
  obtain ⟨pre, post, rfl, hg, a, b⟩ := U.split
  have hm := N (d, o) (List.mem_append_right _ (.head _))
  refine wpAny_setItem_pairs (hsz := hz) hkey (Heap.dictOf_iff.mpr ⟨o, hm.1, hd⟩) fun h' hmm hs => ?_
  obtain ⟨o', ho', hd'⟩ := Heap.dictOf_iff.mp hmm
  exact h h' o' (F.change hs hm.2.1 hm.2.2) (hg o' ▸ N.setIn a b hs ho') hd'
theorem list_tail {value slice : PySem.Expr} {l : Addr} {vs : Array Value} {n : Nat} {k : Int} {u : Tok} {v : Value} {Q : Value → Shared → Prop} (N : News h₀ L s.heap news) (hm : (l, listOf vs n) ∈ news) (h0 : 0 ≤ k) (hhi : k < 2 ^ 63) (hx : vs[k.toNat]? = some v) (h : Q v s)
    (hs : subscripted slice false (.ref l) (.int k u) = operate [.ref l, .int k u] (getItem (.ref l) (.int k u))) : wpAny (model prog w) A (subscriptTail value slice (.ref l) (.int k u)) Q E s :=
  tail_any (N.isList hm).typeIs slot_list_getitem.lookup (wpAny_getItem_list (N.isList hm) h0 hhi hx h) hs
theorem fz_in' {a : Addr} {k : Int} {t tq ep : Nat} {led b : Bool} {Q : Value → Shared → Prop} (N : News h₀ L s.heap news) (hm : (a, frozO #[(0, .int 0 tq)] ep (tab1 led)) ∈ news) (hb : decide (k = 0) = b) (h : Q (.bool b) { s with toks := s.toks + 1 }) :
    wpAny (model prog w) A (compareOp .In (.int k t) (.ref a)) Q E s := fz_in N hm (hb ▸ h)
theorem adjust_upto (b n : Nat) (hb : b ≤ n) : Builtin.Slice.sliceAdjust none (some (b : Int)) 1 (n : Int) = (0, (b : Int)) := by
  unfold Builtin.Slice.sliceAdjust
  have h1 : ¬ ((1 : Int) < 0) := by omega
  have h2 : ¬ ((b : Int) < 0) := by omega
  simp only [h1, h2, if_false]
  congr 1
  omega
theorem places_upto (b : Nat) : Builtin.Slice.slicePlaces 0 (b : Int) 1 = b := by
  unfold Builtin.Slice.slicePlaces
  have h1 : (1 : Int) > 0 := by omega
  simp only [h1, if_true, Int.ediv_one]
  split <;> omega
theorem sliceApplied_upto {sl : Addr} {b n : Nat} {u : Tok} {Q : Int × Int × Nat → Shared → Prop} (hs : s.heap.IsSliceOf sl .none (.int b u) .none) (hb : b ≤ n) (h : Q (0, 1, b) s) :
    wpAny (model prog w) A (Builtin.Slice.sliceApplied (.ref sl) (pure (n : Int))) Q E s := by
  obtain ⟨os, hos, hcs, hds⟩ := id hs
  unfold Builtin.Slice.sliceApplied Builtin.Slice.sliceFields
  refine wpAny_bind (wpAny_bind (wpAny_field hos hds (x := .none) rfl (wpAny_bind (wpAny_field hos hds (x := .int b u) rfl (wpAny_bind (wpAny_field hos hds (x := .none) rfl (wpAny_pure ?_)))))))
  refine wpAny_bind (slicePart_none ?_)
  show wpAny _ _ (if ((1 : Int) == 0) = true then _ else _) _ _ s
  rw [if_neg (by decide)]
  refine wpAny_bind (slicePart_none (wpAny_bind (slicePart_int (wpAny_bind (wpAny_pure ?_)))))
  show wpAny _ _ (match Builtin.Slice.sliceAdjust none (some (b : Int)) 1 (n : Int) with | (lo, hi) => pure (lo, (1 : Int), Builtin.Slice.slicePlaces lo hi 1)) _ _ s
  rw [adjust_upto b n hb]
  show wpAny _ _ (pure ((0 : Int), (1 : Int), Builtin.Slice.slicePlaces 0 (b : Int) 1)) _ _ s
  rw [places_upto]
  exact wpAny_pure h
theorem pick_upto (xs : Array Value) (b : Nat) (hb : b ≤ xs.size) : ((List.range b).filterMap fun (k : Nat) => xs[((0 : Int) + (k : Int) * 1).toNat]?).toArray = (xs.toList.take b).toArray := by
  have e : (fun (k : Nat) => xs[((0 : Int) + (k : Int) * 1).toNat]?) = fun k => xs[k]? := by
    funext k
    have : ((0 : Int) + (k : Int) * 1).toNat = k := by omega
    rw [this]
  rw [e]
  congr 1
  induction b with
  | zero => simp
  | succ b ih =>
    rw [List.range_succ, List.filterMap_append, ih (by omega), List.take_add_one]
    congr 1
    have : b < xs.size := by omega
    simp [this]
theorem getItem_tuple_upto {t sl : Addr} {items : Array Value} {b : Nat} {u : Tok} {Q : Value → Shared → Prop} (ht : IsTup s.heap t items) (hs : s.heap.IsSliceOf sl .none (.int b u) .none) (hb : b < items.size)
    (h : Q (.ref s.heap.objs.size) { s with heap := s.heap.push { cls := .type "tuple", data := .seq (items.toList.take b).toArray } })
    (hsz : items.size ≤ sizeLine) : wpAny (model prog w) A (getItem (.ref t) (.ref sl)) Q E s := by
  have hdrop : sizeOk (.seq (items.toList.take b).toArray) := by
    show (items.toList.take b).toArray.size ≤ sizeLine
    rw [List.size_toArray, List.length_take, Array.length_toList]
    omega
  obtain ⟨os, hos, hcs, hds⟩ := id hs
  have hTs : s.TypeIs (.ref sl) "slice" := ⟨os, hos, hcs⟩
  unfold getItem
  try with_reducible refine wpAny_holding ?_
  first | refine wpAny_bind (wpAny_pure ?_) | skip
  refine wpAny_bind (wpAny_sequenceKey ht.typeIs (by decide) ?_)
  refine wpAny_bind (wpAny_callSpecial?_slot (name := Str.ofString "__getitem__") ht.typeIs slot_tuple_getitem
    (wpAny_call_entry slot_tuple_getitem ht.typeIs entry_tuple_getitem ?_ (args_tuple_getitem _ _)))
  show wpAny _ _ (Builtin.Tuple.tupleItemsOf (.ref t) >>= _) _ _ s
  refine wpAny_bind (tupleItemsOf_ ht ?_)
  refine wpAny_bind (wpAny_typeOf hTs ?_)
  rw [if_pos (by decide)]
  refine wpAny_bind (sliceApplied_upto hs (Nat.le_of_lt hb) ?_)
  have hno : ¬ (((0 : Int) == 0 && (1 : Int) == 1 && b == items.size) = true) := by
    have : (b == items.size) = false := by rw [beq_eq_false_iff_ne]; omega
    rw [this]; simp
  show wpAny _ _ (if ((0 : Int) == 0 && (1 : Int) == 1 && b == items.size) = true then _ else _) _ _ s
  rw [if_neg hno, pick_upto items b (Nat.le_of_lt hb)]
  first
    | exact wpAny_bind (m := Builtin.Tuple.tupleExact _) (wpAny_newObj_type (wpAny_pure ⟨_, rfl, wpAny_pure h⟩) hdrop)
    | exact wpAny_bind (m := Builtin.Tuple.tupleExact _) (wpAny_newObj_type (wpAny_bind (wpAny_pure (wpAny_pure ⟨_, rfl, wpAny_pure h⟩))) hdrop)
    | exact wpAny_bind (wpAny_bind (m := Builtin.Tuple.tupleExact _) (wpAny_newObj_type (wpAny_pure (wpAny_pure ⟨_, rfl, wpAny_pure h⟩)) hdrop))
    | exact wpAny_bind (wpAny_bind (m := Builtin.Tuple.tupleExact _) (wpAny_newObj_type (wpAny_pure ⟨_, rfl, wpAny_pure h⟩) hdrop))
theorem tup_upto {value slice : Expr} {t : Addr} {items : List Value} {n b : Nat} {u : Tok} {zs : List Value} {Q : Value → Shared → Prop}
    (F : Fr h₀ L s.heap m) (N : News h₀ L s.heap news) (hm : (t, ({ cls := .type "tuple", data := .seq items.toArray n } : Obj)) ∈ news) (hb : b < items.length) (e : items.take b = zs)
    (h : ∀ D h', Fr h₀ L h' m → News h₀ L h' ((D, tupO zs) :: news) → (∀ p ∈ news, p.1 < D) → Q (.ref D) { s with heap := h' })
    (hs : subscripted slice false (.ref t) (.ref s.heap.objs.size) = operate [.ref s.heap.objs.size, .ref t] (getItem (.ref t) (.ref s.heap.objs.size)))
    (hg : ∀ r, letTemporaryGo value (.ref t) r = pure ()) (hz : items.length ≤ 100) :
    wpAny (model prog w) A (subscriptTail value slice (.ref t) (.ref s.heap.objs.size)) Q E { s with heap := s.heap.push { cls := .type "slice", data := .fields #[.none, .int b u, .none] } } := by
  have ht := N.isTup hm
  have ht' : IsTup (s.heap.push { cls := .type "slice", data := .fields #[.none, .int b u, .none] }) t items.toArray := ht.keeps fun _ _ e => Heap.get?_push_of_some _ e
  refine subscriptTail_ops (s := { s with heap := s.heap.push { cls := .type "slice", data := .fields #[.none, .int b u, .none] } }) ht'.typeIs slot_tuple_getitem.lookup
    (getItem_tuple_upto ht' (Heap.IsSliceOf.new ..) (by simpa using hb) ?_ (by rw [sizeLine_eq]; simp; omega)) hs hg
  have N1 := News.push (F.push { cls := .type "slice", data := .fields #[.none, .int b u, .none] }) (N.grown fun _ _ e => Heap.get?_push_of_some _ e) { cls := .type "tuple", data := .seq (items.take b).toArray }
  rw [Heap.size_push] at N1
  show Q (.ref (s.heap.push _).objs.size) _
  rw [Heap.size_push]
  subst e
  exact h _ _ ((F.push _).push _) N1 (fun p hp => Nat.lt_succ_of_lt (Heap.lt_size (N p hp).1))
theorem tup_from {value slice : Expr} {t : Addr} {items : List Value} {n a : Nat} {u : Tok} {zs : List Value} {Q : Value → Shared → Prop}
    (F : Fr h₀ L s.heap m) (N : News h₀ L s.heap news) (hm : (t, ({ cls := .type "tuple", data := .seq items.toArray n } : Obj)) ∈ news) (h1 : 1 ≤ a) (ha : a ≤ items.length) (e : items.drop a = zs)
    (h : ∀ D h', Fr h₀ L h' m → News h₀ L h' ((D, tupO zs) :: news) → (∀ p ∈ news, p.1 < D) → Q (.ref D) { s with heap := h' })
    (hs : subscripted slice false (.ref t) (.ref s.heap.objs.size) = operate [.ref s.heap.objs.size, .ref t] (getItem (.ref t) (.ref s.heap.objs.size)))
    (hg : ∀ r, letTemporaryGo value (.ref t) r = pure ()) (hz : items.length ≤ 100) :
    wpAny (model prog w) A (subscriptTail value slice (.ref t) (.ref s.heap.objs.size)) Q E { s with heap := s.heap.push { cls := .type "slice", data := .fields #[.int a u, .none, .none] } } := by
  have ht := N.isTup hm
  refine slice_tuple_from F N ht h1 (by simpa using ha) (fun h' F' N' => ?_) hs hg (by rw [sizeLine_eq]; simp; omega)
  refine h _ h' F' ?_ (fun p hp => Nat.lt_succ_of_lt (Heap.lt_size (N p hp).1))
  subst e
  simpa using N'
end
abbrev ks (x : String) : Str := Str.ofString x
abbrev sv (x : String) (t : Tok) : Value := .str (Str.ofString x) t
abbrev sd (x : String) : Dat := .str (Str.ofString x)
def TL : List (Addr × Obj) := [(420, tupO [sv "int" 779, sv "int" 780]), (421, tupO [sv "int" 784, sv "int" 785]), (422, tupO [sv "array" 782, .int 3 783, .ref 421]),
  (423, tupO [sv "int" 789, sv "int" 790]), (424, tupO [sv "a" 788, .ref 423, .bool false]), (425, tupO [sv "int" 792, sv "int" 793]), (426, tupO [sv "b" 791, .ref 425, .bool false]), (427, tupO [.ref 424, .ref 426]), (428, tupO [sv "struct" 787, .ref 427]),
  (429, tupO [sv "int" 796, sv "int" 797]), (430, tupO [sv "slice" 795, .ref 429])]
theorem tl_in {P : Params} {h : Heap} (X : (hd.heap_39 P).In h) : ∀ p ∈ TL, h.get? p.1 = some p.2 := by
  unfold TL
  refine List.forall_mem_cons.mpr ⟨X _ _ rfl, List.forall_mem_cons.mpr ⟨X _ _ rfl, List.forall_mem_cons.mpr ⟨X _ _ rfl, List.forall_mem_cons.mpr ⟨X _ _ rfl, List.forall_mem_cons.mpr ⟨X _ _ rfl, List.forall_mem_cons.mpr ⟨X _ _ rfl, List.forall_mem_cons.mpr ⟨X _ _ rfl, List.forall_mem_cons.mpr ⟨X _ _ rfl, List.forall_mem_cons.mpr ⟨X _ _ rfl, List.forall_mem_cons.mpr ⟨X _ _ rfl, List.forall_mem_cons.mpr ⟨X _ _ rfl, fun _ h => nomatch h⟩⟩⟩⟩⟩⟩⟩⟩⟩⟩⟩
mutual
inductive TIn (led : List (Addr × Obj)) : Value → Dat → Prop
  | none : TIn led .none .none
  | bool (b : Bool) : TIn led (.bool b) (.bool b)
  | int {i : Int} {j : Int} (t : Tok) (e : i = j) : TIn led (.int i t) (.int j)
  | str (x : Str) (t : Tok) : TIn led (.str x t) (.str x)
  | tup {a : Addr} {vs : List Value} {ds : List Dat} : (a, tupO vs) ∈ led → TAll led vs ds → TIn led (.ref a) (.tuple ds)
inductive TAll (led : List (Addr × Obj)) : List Value → List Dat → Prop
  | nil : TAll led [] []
  | cons {v : Value} {vs : List Value} {d : Dat} {ds : List Dat} : TIn led v d → TAll led vs ds → TAll led (v :: vs) (d :: ds)
end
mutual
theorem TIn.mono {led led' : List (Addr × Obj)} (hs : ∀ a vs, (a, tupO vs) ∈ led → (a, tupO vs) ∈ led') : ∀ {v : Value} {d : Dat}, TIn led v d → TIn led' v d
  | _, _, .none => .none
  | _, _, .bool b => .bool b
  | _, _, .int t e => .int t e
  | _, _, .str x t => .str x t
  | _, _, .tup h r => .tup (hs _ _ h) (TAll.mono hs r)
theorem TAll.mono {led led' : List (Addr × Obj)} (hs : ∀ a vs, (a, tupO vs) ∈ led → (a, tupO vs) ∈ led') : ∀ {vs : List Value} {ds : List Dat}, TAll led vs ds → TAll led' vs ds
  | _, _, .nil => .nil
  | _, _, .cons h r => .cons (TIn.mono hs h) (TAll.mono hs r)
end
theorem TAll.snoc {led : List (Addr × Obj)} {v : Value} {d : Dat} (h : TIn led v d) : ∀ {vs : List Value} {ds : List Dat}, TAll led vs ds → TAll led (vs ++ [v]) (ds ++ [d])
  | _, _, .nil => .cons h .nil
  | _, _, .cons a r => .cons a (TAll.snoc h r)
theorem TAll.len {led : List (Addr × Obj)} : ∀ {vs : List Value} {ds : List Dat}, TAll led vs ds → vs.length = ds.length
  | _, _, .nil => rfl
  | _, _, .cons _ r => by simp [TAll.len r]
mutual
theorem TIn.reads {h : Heap} {led : List (Addr × Obj)} (H : ∀ p ∈ led, h.get? p.1 = some p.2) : ∀ {v : Value} {d : Dat}, TIn led v d → ∃ as, Reads h v (kqdP d) as
  | _, _, .none => ⟨_, Reads.none⟩
  | _, _, .bool b => ⟨_, Reads.bool b⟩
  | _, _, .int (i := i) t e => e ▸ ⟨_, Reads.int i t⟩
  | _, _, .str x t => ⟨_, Reads.str x t⟩
  | _, _, .tup hm r => by
    obtain ⟨as, q⟩ := TAll.reads H r
    rw [kqdP]
    exact ⟨as, reads_tuple_at (H _ hm) rfl rfl (by simpa using q)⟩
theorem TAll.reads {h : Heap} {led : List (Addr × Obj)} (H : ∀ p ∈ led, h.get? p.1 = some p.2) : ∀ {vs : List Value} {ds : List Dat}, TAll led vs ds → ∃ as, ReadsAll h vs (kqdPs ds) as
  | _, _, .nil => ⟨_, ReadsAll.nil⟩
  | _, _, .cons a r => by
    obtain ⟨as, q⟩ := TIn.reads H a
    obtain ⟨bs, p⟩ := TAll.reads H r
    rw [kqdPs]
    exact ⟨_, ReadsAll.cons q p⟩
end
mutual
theorem eqv_same : ∀ d : Dat, PyData.eqv (kqdP d) (kqdP d) = true
  | .none => rfl
  | .bool b => by simp [kqdP, PyData.eqv]
  | .int i => by simp [kqdP, PyData.eqv]
  | .str x => by simp [kqdP, PyData.eqv]
  | .bytes _ => rfl
  | .tuple ds => by simp [kqdP, PyData.eqv, eqvAll_same ds]
  | .list ds => by simp [kqdP, PyData.eqv, eqvAll_same ds]
theorem eqvAll_same : ∀ ds : List Dat, PyData.eqvAll (kqdPs ds) (kqdPs ds) = true
  | [] => rfl
  | d :: ds => by simp [kqdPs, PyData.eqvAll, eqv_same d, eqvAll_same ds]
end
def okD (n : Nat) (d : Dat) : Prop := (kqdP d).canLay0 = true ∧ (kqdP d).depth ≤ n
def okAll (n : Nat) (ds : List Dat) : Prop := ∀ d ∈ ds, okD n d
theorem okAll_pds {n : Nat} : ∀ {ds : List Dat}, okAll n ds → PyData.canLayAll0 (kqdPs ds) = true ∧ PyData.depthAll (kqdPs ds) ≤ n
  | [], _ => by simp [kqdPs, PyData.canLayAll0, PyData.depthAll]
  | d :: ds, h => by
    have a := h d (.head _)
    have b := okAll_pds (ds := ds) fun e he => h e (.tail _ he)
    simp only [kqdPs, PyData.canLayAll0, PyData.depthAll, a.1, b.1, Bool.and_self, true_and]
    have := a.2; have := b.2
    omega
theorem okD_tuple {n : Nat} {ds : List Dat} (h : okAll n ds) : okD (n + 1) (.tuple ds) := by
  have a := okAll_pds h
  unfold okD
  simp only [kqdP, PyData.canLay0, PyData.depth, a.1, true_and]
  have := a.2
  omega
theorem okD_mono {n k : Nat} {d : Dat} (h : okD n d) (hk : n ≤ k) : okD k d := ⟨h.1, Nat.le_trans h.2 hk⟩
theorem okD_shaped {n : Nat} {d : Dat} (h : okD n d) (hn : n ≤ 64) : SeqAt.shaped (kqdP d) = true := by
  unfold SeqAt.shaped
  rw [h.1, Bool.true_and]
  exact decide_eq_true (Nat.le_trans h.2 hn)
section
variable {prog : Program} {w : World} {A : Around} {E : Value → Shared → Prop} {s : Shared} {h₀ : Heap} {L : Addr} {m : Str → Option Value} {news : List (Addr × Obj)}
theorem led_at {P : Params} (F : Fr h₀ L s.heap m) (X : (hd.heap_39 P).In h₀) (N : News h₀ L s.heap news) : ∀ p ∈ TL ++ news, s.heap.get? p.1 = some p.2 := fun p hp =>
  (List.mem_append.mp hp).elim (tl_in (X.keeps F.keep) p) fun hq => (N p hq).1
theorem cmp_eq {P : Params} {a b : Value} {d e : Dat} {n k : Nat} {r : Bool} {Q : Value → Shared → Prop} (F : Fr h₀ L s.heap m) (X : (hd.heap_39 P).In h₀) (N : News h₀ L s.heap news) (ha : TIn (TL ++ news) a d) (hb : TIn (TL ++ news) b e) (oa : okD n d) (ob : okD k e) (hn : n ≤ 64) (hk : k ≤ 64) (hr : PyData.eqv (kqdP d) (kqdP e) = r)
    (hu : A.units + 64 < cLine) (h : Q (.bool r) s) : wpAny (model prog w) A (compareOp .Eq a b) Q E s := by
  obtain ⟨as, ra⟩ := ha.reads (led_at F X N)
  obtain ⟨bs, rb⟩ := hb.reads (led_at F X N)
  exact eq_dataH ra rb (okD_shaped oa hn) (okD_shaped ob hk) hu (by rw [hr]; exact h)
theorem cmp_ne {P : Params} {a b : Value} {d e : Dat} {n k : Nat} {r : Bool} {Q : Value → Shared → Prop} (F : Fr h₀ L s.heap m) (X : (hd.heap_39 P).In h₀) (N : News h₀ L s.heap news) (ha : TIn (TL ++ news) a d) (hb : TIn (TL ++ news) b e) (oa : okD n d) (ob : okD k e) (hn : n ≤ 64) (hk : k ≤ 64) (hr : PyData.eqv (kqdP d) (kqdP e) = !r)
    (hu : A.units + 64 < cLine) (h : Q (.bool r) s) : wpAny (model prog w) A (compareOp .NotEq a b) Q E s := by
  obtain ⟨as, ra⟩ := ha.reads (led_at F X N)
  obtain ⟨bs, rb⟩ := hb.reads (led_at F X N)
  exact ne_dataH ra rb (okD_shaped oa hn) (okD_shaped ob hk) hu (by rw [hr, Bool.not_not]; exact h)
theorem rows_reads {P : Params} {a : Addr} {xs : List Value} {ka n : Nat} {ds : List Dat} (F : Fr h₀ L s.heap m) (X : (hd.heap_39 P).In h₀) (N : News h₀ L s.heap news) (ma : (a, listOf xs.toArray ka) ∈ news) (Da : TAll (TL ++ news) xs ds) (oa : okAll n ds) (hn : n ≤ 63) :
    ∃ as, Reads s.heap (.ref a) (.list (kqdPs ds)) as ∧ SeqAt.shaped (.list (kqdPs ds)) = true := by
  obtain ⟨as, ra⟩ := Da.reads (led_at F X N)
  refine ⟨_, reads_list_at (N.get ma) rfl rfl (by simpa using ra), ?_⟩
  have l := okAll_pds oa
  unfold SeqAt.shaped
  simp only [PyData.canLay0, PyData.depth, l.1, Bool.true_and]
  have := l.2
  exact decide_eq_true (by omega)
theorem rows_ne {P : Params} {a b : Addr} {xs ys : List Value} {ka kb n : Nat} {ds : List Dat} {Q : Value → Shared → Prop} (F : Fr h₀ L s.heap m) (X : (hd.heap_39 P).In h₀) (N : News h₀ L s.heap news) (ma : (a, listOf xs.toArray ka) ∈ news) (mb : (b, listOf ys.toArray kb) ∈ news)
    (Da : TAll (TL ++ news) xs ds) (Db : TAll (TL ++ news) ys ds) (oa : okAll n ds) (hn : n ≤ 63) (hu : A.units + 64 < cLine) (h : Q (.bool false) s) : wpAny (model prog w) A (compareOp .NotEq (.ref a) (.ref b)) Q E s := by
  obtain ⟨as, ra, sa⟩ := rows_reads F X N ma Da oa hn
  obtain ⟨bs, rb, sb⟩ := rows_reads F X N mb Db oa hn
  refine ne_dataH ra rb sa sb hu ?_
  rw [show PyData.eqv (.list (kqdPs ds)) (.list (kqdPs ds)) = true by simp [PyData.eqv, eqvAll_same]]
  exact h
theorem rows_eq {P : Params} {a b : Addr} {xs ys : List Value} {ka kb n : Nat} {ds : List Dat} {Q : Value → Shared → Prop} (F : Fr h₀ L s.heap m) (X : (hd.heap_39 P).In h₀) (N : News h₀ L s.heap news) (ma : (a, listOf xs.toArray ka) ∈ news) (mb : (b, listOf ys.toArray kb) ∈ news)
    (Da : TAll (TL ++ news) xs ds) (Db : TAll (TL ++ news) ys ds) (oa : okAll n ds) (hn : n ≤ 63) (hu : A.units + 64 < cLine) (h : Q (.bool true) s) : wpAny (model prog w) A (compareOp .Eq (.ref a) (.ref b)) Q E s := by
  obtain ⟨as, ra, sa⟩ := rows_reads F X N ma Da oa hn
  obtain ⟨bs, rb, sb⟩ := rows_reads F X N mb Db oa hn
  refine eq_dataH ra rb sa sb hu ?_
  rw [show PyData.eqv (.list (kqdPs ds)) (.list (kqdPs ds)) = true by simp [PyData.eqv, eqvAll_same]]
  exact h
theorem len_at {l : Addr} {vs : List Value} {n k : Nat} {Q : Value → Shared → Prop} (N : News h₀ L s.heap news) (hm : (l, listOf vs.toArray n) ∈ news) (hk : vs.length = k) (hz : k ≤ 100000) (h : Q (.int k (s.toks + 1)) { s with toks := s.toks + 1 + 1 }) :
    wpAny (model prog w) A (call (.builtin "len") [.ref l]) Q E s :=
  len_list (N.isList hm) (by simp; omega) (by simpa [hk] using h)
end
inductive Ty where | int | pair | row | slice | arr
inductive Num where | loc | cst (k : Int)
inductive Pl where
  | v0 (τ : Ty) | w4 (τ : Ty) | glob (τ : Ty) | dc (τ : Ty) | dl (τ : Ty)
  | sl (τ : Ty) (n : Num) | fld (τ : Ty) (p : Pl) (f : Int) | idx (τ : Ty) (p : Pl) (n : Num)
def Pl.ty : Pl → Ty
  | .v0 τ | .w4 τ | .glob τ | .dc τ | .dl τ | .sl τ _ | .fld τ _ _ | .idx τ _ _ => τ
def Pl.re (τ : Ty) : Pl → Pl
  | .v0 _ => .v0 τ | .w4 _ => .w4 τ | .glob _ => .glob τ | .dc _ => .dc τ | .dl _ => .dl τ
  | .sl _ n => .sl τ n | .fld _ p f => .fld τ p f | .idx _ p n => .idx τ p n
def Pl.kept : Pl → Bool
  | .w4 _ => false
  | .fld _ p _ => p.kept
  | .idx _ p _ => p.kept
  | _ => true
def Pl.size : Pl → Nat
  | .fld _ p _ => p.size + 1
  | .idx _ p _ => p.size + 1
  | _ => 1
abbrev tInt : Dat := .tuple [sd "int", sd "int"]
abbrev tRow : Dat := .tuple [sd "array", .int 3, tInt]
abbrev tPair : Dat := .tuple [sd "struct", .tuple [.tuple [sd "a", tInt, .bool false], .tuple [sd "b", tInt, .bool false]]]
abbrev tSlice : Dat := .tuple [sd "slice", tInt]
abbrev tArr : Dat := .tuple [sd "array", .int 3, tPair]
def Ty.dat : Ty → Dat
  | .int => tInt | .pair => tPair | .row => tRow | .slice => tSlice | .arr => tArr
def Ty.isArr : Ty → Bool
  | .row => true | .arr => true | _ => false
inductive TyIn (led : List (Addr × Obj)) : Value → Ty → Prop
  | int : TyIn led (.ref 420) .int
  | pair : TyIn led (.ref 428) .pair
  | row : TyIn led (.ref 422) .row
  | slice : TyIn led (.ref 430) .slice
  | arr {a : Addr} {t t' : Tok} : (a, tupO [sv "array" t, .int 3 t', .ref 428]) ∈ led → TyIn led (.ref a) .arr
inductive NumIn (led : List (Addr × Obj)) : Value → Num → Prop
  | loc {a : Addr} {t t' t'' : Tok} : (a, tupO [sv "local" t, .ref 420, .int 0 t', .int 1 t'']) ∈ led → NumIn led (.ref a) .loc
  | cst {a : Addr} {t t' t'' : Tok} {k : Int} : (a, tupO [sv "const" t, .ref 420, .int 0 t', .int k t'']) ∈ led → NumIn led (.ref a) (.cst k)
inductive PlIn (led : List (Addr × Obj)) : Value → Pl → Prop
  | v0 {a : Addr} {t t' t'' : Tok} {v : Value} {τ : Ty} : (a, tupO [sv "local" t, v, .int 0 t', .int 0 t'']) ∈ led → TyIn led v τ → PlIn led (.ref a) (.v0 τ)
  | w4 {a : Addr} {t t' t'' : Tok} {v : Value} {τ : Ty} : (a, tupO [sv "local" t, v, .int 0 t', .int 4 t'']) ∈ led → TyIn led v τ → PlIn led (.ref a) (.w4 τ)
  | glob {a : Addr} {t t' t'' : Tok} {v : Value} {τ : Ty} : (a, tupO [sv "global" t, v, .int 0 t', sv "m.g" t'']) ∈ led → TyIn led v τ → PlIn led (.ref a) (.glob τ)
  | dc {a b c d e : Addr} {t t' t1 t2 t3 t4 t5 : Tok} {v : Value} {τ : Ty} : (a, tupO [sv "deref" t, v, .int 0 t', .ref b]) ∈ led → TyIn led v τ → (b, tupO [sv "const" t1, .ref c, .int 0 t2, .ref d]) ∈ led →
      (c, tupO [sv "ptr" t3, .ref 420]) ∈ led → (d, tupO [sv "ptr" t4, .int 5 t5, .ref e]) ∈ led → (e, tupO []) ∈ led → PlIn led (.ref a) (.dc τ)
  | dl {a b c : Addr} {t t' t1 t2 t3 t4 : Tok} {v : Value} {τ : Ty} : (a, tupO [sv "deref" t, v, .int 0 t', .ref b]) ∈ led → TyIn led v τ → (b, tupO [sv "local" t1, .ref c, .int 0 t2, .int 2 t3]) ∈ led →
      (c, tupO [sv "ptr" t4, .ref 428]) ∈ led → PlIn led (.ref a) (.dl τ)
  | sl {a b : Addr} {t t' t1 t2 t3 : Tok} {v u : Value} {τ : Ty} {n : Num} : (a, tupO [sv "index" t, v, .int 0 t', .ref b, u]) ∈ led → TyIn led v τ → (b, tupO [sv "local" t1, .ref 430, .int 0 t2, .int 3 t3]) ∈ led → NumIn led u n → PlIn led (.ref a) (.sl τ n)
  | fld {a : Addr} {t t' t1 : Tok} {v u : Value} {τ : Ty} {p : Pl} {f : Int} : (a, tupO [sv "field" t, v, .int 0 t', u, .int f t1]) ∈ led → TyIn led v τ → PlIn led u p → PlIn led (.ref a) (.fld τ p f)
  | idx {a : Addr} {t t' : Tok} {v u y : Value} {τ : Ty} {p : Pl} {n : Num} : (a, tupO [sv "index" t, v, .int 0 t', u, y]) ∈ led → TyIn led v τ → PlIn led u p → p.ty.isArr = true → NumIn led y n → PlIn led (.ref a) (.idx τ p n)
theorem TyIn.mono {led led' : List (Addr × Obj)} (hs : ∀ p ∈ led, p ∈ led') {v : Value} {τ : Ty} : TyIn led v τ → TyIn led' v τ
  | .int => .int | .pair => .pair | .row => .row | .slice => .slice | .arr h => .arr (hs _ h)
theorem NumIn.mono {led led' : List (Addr × Obj)} (hs : ∀ p ∈ led, p ∈ led') {v : Value} {n : Num} : NumIn led v n → NumIn led' v n
  | .loc h => .loc (hs _ h) | .cst h => .cst (hs _ h)
theorem PlIn.mono {led led' : List (Addr × Obj)} (hs : ∀ p ∈ led, p ∈ led') : ∀ {v : Value} {p : Pl}, PlIn led v p → PlIn led' v p := by
  intro v p P
  induction P with
  | v0 h a => exact .v0 (hs _ h) (a.mono hs)
  | w4 h a => exact .w4 (hs _ h) (a.mono hs)
  | glob h a => exact .glob (hs _ h) (a.mono hs)
  | dc h a b c d e => exact .dc (hs _ h) (a.mono hs) (hs _ b) (hs _ c) (hs _ d) (hs _ e)
  | dl h a b c => exact .dl (hs _ h) (a.mono hs) (hs _ b) (hs _ c)
  | sl h a b n => exact .sl (hs _ h) (a.mono hs) (hs _ b) (n.mono hs)
  | fld h a r ih => exact .fld (hs _ h) (a.mono hs) ih
  | idx h a r e n ih => exact .idx (hs _ h) (a.mono hs) ih e (n.mono hs)
theorem tl_mem {p : Addr × Obj} {led : List (Addr × Obj)} (h : p ∈ TL) : p ∈ TL ++ led := List.mem_append.mpr (.inl h)
theorem led_mem {p : Addr × Obj} {led : List (Addr × Obj)} (h : p ∈ led) : p ∈ TL ++ led := List.mem_append.mpr (.inr h)
theorem TIn.up {led led' : List (Addr × Obj)} {v : Value} {d : Dat} (h : TIn (TL ++ led) v d) (hs : ∀ p ∈ led, p ∈ led') : TIn (TL ++ led') v d :=
  h.mono fun a vs q => (List.mem_append.mp q).elim tl_mem fun x => led_mem (hs _ x)
theorem TAll.up {led led' : List (Addr × Obj)} {v : List Value} {d : List Dat} (h : TAll (TL ++ led) v d) (hs : ∀ p ∈ led, p ∈ led') : TAll (TL ++ led') v d :=
  h.mono fun a vs q => (List.mem_append.mp q).elim tl_mem fun x => led_mem (hs _ x)
theorem TIn.upT {led led' : List (Addr × Obj)} {v : Value} {d : Dat} (h : TIn (TL ++ led) v d) (hs : ∀ a vs, (a, tupO vs) ∈ led → (a, tupO vs) ∈ led') : TIn (TL ++ led') v d :=
  h.mono fun a vs q => (List.mem_append.mp q).elim tl_mem fun x => led_mem (hs _ _ x)
theorem TAll.upT {led led' : List (Addr × Obj)} {v : List Value} {d : List Dat} (h : TAll (TL ++ led) v d) (hs : ∀ a vs, (a, tupO vs) ∈ led → (a, tupO vs) ∈ led') : TAll (TL ++ led') v d :=
  h.mono fun a vs q => (List.mem_append.mp q).elim tl_mem fun x => led_mem (hs _ _ x)
section
variable {led : List (Addr × Obj)}
theorem t420 : TIn (TL ++ led) (.ref 420) tInt := .tup (tl_mem (by unfold TL; kcf_m)) (.cons (.str _ _) (.cons (.str _ _) .nil))
theorem t421 : TIn (TL ++ led) (.ref 421) tInt := .tup (tl_mem (by unfold TL; kcf_m)) (.cons (.str _ _) (.cons (.str _ _) .nil))
theorem t423 : TIn (TL ++ led) (.ref 423) tInt := .tup (tl_mem (by unfold TL; kcf_m)) (.cons (.str _ _) (.cons (.str _ _) .nil))
theorem t425 : TIn (TL ++ led) (.ref 425) tInt := .tup (tl_mem (by unfold TL; kcf_m)) (.cons (.str _ _) (.cons (.str _ _) .nil))
theorem t429 : TIn (TL ++ led) (.ref 429) tInt := .tup (tl_mem (by unfold TL; kcf_m)) (.cons (.str _ _) (.cons (.str _ _) .nil))
theorem t422 : TIn (TL ++ led) (.ref 422) tRow := .tup (tl_mem (by unfold TL; kcf_m)) (.cons (.str _ _) (.cons (.int _ rfl) (.cons t421 .nil)))
theorem t430 : TIn (TL ++ led) (.ref 430) tSlice := .tup (tl_mem (by unfold TL; kcf_m)) (.cons (.str _ _) (.cons t429 .nil))
theorem t428 : TIn (TL ++ led) (.ref 428) tPair := .tup (tl_mem (by unfold TL; kcf_m)) (.cons (.str _ _) (.cons (.tup (tl_mem (by unfold TL; kcf_m)) (.cons (.tup (tl_mem (by unfold TL; kcf_m)) (.cons (.str _ _) (.cons t423 (.cons (.bool _) .nil))))
  (.cons (.tup (tl_mem (by unfold TL; kcf_m)) (.cons (.str _ _) (.cons t425 (.cons (.bool _) .nil)))) .nil))) .nil))
theorem TyIn.tin {v : Value} {τ : Ty} : TyIn led v τ → TIn (TL ++ led) v τ.dat
  | .int => t420 | .pair => t428 | .row => t422 | .slice => t430
  | .arr h => .tup (led_mem h) (.cons (.str _ _) (.cons (.int _ rfl) (.cons t428 .nil)))
end
abbrev reg (n : Nat) : Dat := .tuple [sd "reg", .int (n : Int)]
abbrev cstD (k : Int) : Dat := .tuple [sd "const", tInt, .int k]
abbrev row1 (w : String) (n : Nat) (x : Dat) : Dat := .tuple [sd w, .int (n : Int), x]
abbrev row2 (w : String) (n : Nat) (x y : Dat) : Dat := .tuple [sd w, .int (n : Int), x, y]
def Num.val : Num → Dat | .loc => reg 1 | .cst k => cstD k
def Num.keep (n : Nat) : Num → Dat | .loc => reg n | .cst k => cstD k
def Num.rows (n : Nat) : Num → List Dat | .loc => [row1 "move" n (reg 1)] | .cst _ => []
structure Step where
  isF : Bool
  told : Dat
  ty : Ty
def Step.word (s : Step) : String := if s.isF then "field" else "elem"
def Step.wptr (s : Step) : String := if s.isF then "fieldptr" else "elemptr"
def Step.dat (s : Step) : Dat := .tuple [sd s.word, s.told, s.ty.dat]
structure Way where
  begin : Dat
  steps : List Step
  rows : List Dat
abbrev Way.dat (w : Way) : Dat := .tuple [w.begin, .tuple (w.steps.map Step.dat)]
def Pl.way (n : Nat) : Pl → Way
  | .v0 _ => ⟨reg 0, [], []⟩
  | .w4 _ => ⟨reg 4, [], []⟩
  | .glob τ => ⟨.tuple [sd "const", .tuple [sd "ptr", τ.dat], .tuple [sd "ptr", sd "m.g", .tuple []]], [], []⟩
  | .dc _ => ⟨.tuple [sd "const", .tuple [sd "ptr", tInt], .tuple [sd "ptr", .int 5, .tuple []]], [], []⟩
  | .dl _ => ⟨reg n, [], [row1 "move" n (reg 2)]⟩
  | .sl τ k => ⟨reg n, [⟨false, k.keep (n + 1), τ⟩], row1 "move" n (reg 3) :: k.rows (n + 1)⟩
  | .fld τ p f => let w := p.way n; ⟨w.begin, w.steps ++ [⟨true, .int f, τ⟩], w.rows⟩
  | .idx τ p k => let w := p.way n; ⟨w.begin, w.steps ++ [⟨false, k.keep (n + w.rows.length), τ⟩], w.rows ++ k.rows (n + w.rows.length)⟩
def along (p : Dat) (n : Nat) : List Step → Dat
  | [] => p
  | _ :: r => along (reg n) (n + 1) r
def alongRows (p : Dat) (n : Nat) : List Step → List Dat
  | [] => []
  | s :: r => row2 s.wptr n p s.told :: alongRows (reg n) (n + 1) r
structure Got where
  out : Dat
  rows : List Dat
def Way.got (w : Way) (n : Nat) : Got := ⟨along w.begin (n + w.rows.length) w.steps, w.rows ++ alongRows w.begin (n + w.rows.length) w.steps⟩
def Got.load (g : Got) (n : Nat) : Got := ⟨reg (n + g.rows.length), g.rows ++ [row1 "load" (n + g.rows.length) g.out]⟩
def Pl.loadK (p : Pl) (n : Nat) : Got := ((p.way n).got n).load n
def Pl.load (n : Nat) : Pl → Got
  | .w4 _ => ⟨reg 4, []⟩
  | .fld τ p f => if p.kept then (Pl.fld τ p f).loadK n else let g := p.load n; ⟨reg (n + g.rows.length), g.rows ++ [row2 "part" (n + g.rows.length) g.out (.int f)]⟩
  | .idx τ p k => if p.kept then (Pl.idx τ p k).loadK n else let g := p.load n; ⟨reg (n + g.rows.length), g.rows ++ [row2 "elem" (n + g.rows.length) g.out k.val]⟩
  | p => p.loadK n
section
variable {prog : Program} {w : World} {A : Around} {E : Value → Shared → Prop} {s : Shared} {h₀ : Heap} {L : Addr} {m : Str → Option Value} {news : List (Addr × Obj)}
theorem len_arr {l : Addr} {vs : Array Value} {n : Nat} {Q : Value → Shared → Prop} (N : News h₀ L s.heap news) (hm : (l, listOf vs n) ∈ news) (hz : vs.size ≤ 100000) (h : Q (.int vs.size (s.toks + 1)) { s with toks := s.toks + 1 + 1 }) :
    wpAny (model prog w) A (call (.builtin "len") [.ref l]) Q E s :=
  len_list (N.isList hm) (by omega) h
end
theorem push_list (vs : List Value) (v : Value) : vs.toArray.push v = (vs ++ [v]).toArray := by simp
theorem int_back (n k : Nat) (h : k = n + 1) (t : Tok) : Value.int ((k : Int) - 1) t = Value.int (n : Int) t := by rw [show (k : Int) - 1 = n by omega]
section
variable {prog : Program} {w : World} {A : Around} {E : Value → Shared → Prop} {s : Shared} {h₀ : Heap} {L : Addr} {m : Str → Option Value} {news : List (Addr × Obj)}
theorem tup_head {value slice : Expr} {t : Addr} {items : List Value} {n : Nat} {k : Int} {u : Tok} {zs : List Value} {Q : Value → Shared → Prop}
    (F : Fr h₀ L s.heap m) (N : News h₀ L s.heap news) (hm : (t, ({ cls := .type "tuple", data := .seq items.toArray n } : Obj)) ∈ news) (h0 : 0 ≤ k) (hb : k.toNat < items.length) (e : items.take k.toNat = zs)
    (h : ∀ D h', Fr h₀ L h' m → News h₀ L h' ((D, tupO zs) :: news) → (∀ p ∈ news, p.1 < D) → Q (.ref D) { s with heap := h' })
    (hs : subscripted slice false (.ref t) (.ref s.heap.objs.size) = operate [.ref s.heap.objs.size, .ref t] (getItem (.ref t) (.ref s.heap.objs.size)))
    (hg : ∀ r, letTemporaryGo value (.ref t) r = pure ()) (hz : items.length ≤ 100) :
    wpAny (model prog w) A (subscriptTail value slice (.ref t) (.ref s.heap.objs.size)) Q E { s with heap := s.heap.push { cls := .type "slice", data := .fields #[.none, .int k u, .none] } } := by
  obtain ⟨b, rfl⟩ := Int.eq_ofNat_of_zero_le h0
  exact tup_upto F N hm hb e h hs hg hz
theorem tup_rest {value slice : Expr} {t : Addr} {items : List Value} {n : Nat} {k : Int} {u : Tok} {zs : List Value} {Q : Value → Shared → Prop}
    (F : Fr h₀ L s.heap m) (N : News h₀ L s.heap news) (hm : (t, ({ cls := .type "tuple", data := .seq items.toArray n } : Obj)) ∈ news) (h1 : 1 ≤ k) (ha : k.toNat ≤ items.length) (e : items.drop k.toNat = zs)
    (h : ∀ D h', Fr h₀ L h' m → News h₀ L h' ((D, tupO zs) :: news) → (∀ p ∈ news, p.1 < D) → Q (.ref D) { s with heap := h' })
    (hs : subscripted slice false (.ref t) (.ref s.heap.objs.size) = operate [.ref s.heap.objs.size, .ref t] (getItem (.ref t) (.ref s.heap.objs.size)))
    (hg : ∀ r, letTemporaryGo value (.ref t) r = pure ()) (hz : items.length ≤ 100) :
    wpAny (model prog w) A (subscriptTail value slice (.ref t) (.ref s.heap.objs.size)) Q E { s with heap := s.heap.push { cls := .type "slice", data := .fields #[.int k u, .none, .none] } } := by
  obtain ⟨b, rfl⟩ := Int.eq_ofNat_of_zero_le (Int.le_trans (by decide) h1)
  exact tup_from F N hm (by omega) ha e h hs hg hz
end
theorem via {r l : List (Addr × Obj)} (s : ∀ p ∈ r, p ∈ l) {p : Addr × Obj} (h : p ∈ r) : p ∈ l := s p h
inductive SIn (w : World) (rest : List (Addr × Obj)) : Addr → Addr → Addr → Prop
  | mk {st dst lr li wld dw tf dtf lro a0 bx kn hd cd dcd lb b0 : Addr} {es esw etf ecd : List DictEntry} {nes nw ntf ncd kro kb kb0 : Nat} {others : List Value} {tv tq th u0 u1 u2 u3 u4 : Tok} {led : Bool} {okn ohd : Obj} :
    (st, instObj 303 dst) ∈ rest → (dst, dictOf es nes) ∈ rest → (wld, instObj 415 dw) ∈ rest → (dw, dictOf esw nw) ∈ rest → (tf, instObj 87 dtf) ∈ rest → (dtf, dictOf etf ntf) ∈ rest →
    (lro, listOf (.ref a0 :: others).toArray kro) ∈ rest → (a0, tupO [sv "v" tv, .ref 428]) ∈ rest → (bx, frozO #[(0, .int 0 tq)] 1 (tab1 led)) ∈ rest → (kn, okn) ∈ rest → (hd, ohd) ∈ rest → (cd, instObj 128 dcd) ∈ rest → (dcd, dictOf ecd ncd) ∈ rest →
    (lb, listOf #[.ref b0] kb) ∈ rest → (b0, listOf #[.ref li, .none] kb0) ∈ rest →
    okn.IsDictOf (PySem.strKind PySem.Challenge.rw_xm0177_01.row.prog w) [(ks "value", .ref 465)] →
    ohd.IsDictOf (PySem.intKind PySem.Challenge.rw_xm0177_01.row.prog w) [(0, .int 0 u0), (1, .int 1 u1), (2, .int 2 u2), (3, .int 3 u3), (4, .int 4 u4)] →
    getL "world" es = some (some (.ref wld)) → getL "typed_fn" es = some (some (.ref tf)) → getL "boxed" es = some (some (.ref bx)) → getL "known" es = some (some (.ref kn)) → getL "held" es = some (some (.ref hd)) → getL "code" es = some (some (.ref cd)) → getL "here" es = some (some (.int 0 th)) →
    getL "fresh" es = some none → getL "new_register" es = some none → getL "put" es = some none → getL "kept" es = some none → getL "value" es = some none → getL "local_value" es = some none → getL "pointer_of" es = some none → getL "is_boxed" es = some none → getL "type_of_local" es = some none →
    getL "base_of" esw = some none → getL "locals" etf = some (some (.ref lro)) → getL "registers" ecd = some (some (.ref lr)) → getL "blocks" ecd = some (some (.ref lb)) → getL "instructions" ecd = some none →
    SIn w rest st lr li
theorem SIn.mono {w : World} {r r' : List (Addr × Obj)} (hs : ∀ p ∈ r, p ∈ r') {st lr li : Addr} : SIn w r st lr li → SIn w r' st lr li
  | .mk m1 m2 m3 m4 m5 m6 m7 m8 m9 m10 m11 m12 m13 m14 m15 i1 i2 g1 g2 g3 g4 g5 g6 g7 n1 n2 n3 n4 n5 n6 n7 n8 n9 x1 x2 x3 x4 x5 =>
    .mk (hs _ m1) (hs _ m2) (hs _ m3) (hs _ m4) (hs _ m5) (hs _ m6) (hs _ m7) (hs _ m8) (hs _ m9) (hs _ m10) (hs _ m11) (hs _ m12) (hs _ m13) (hs _ m14) (hs _ m15) i1 i2 g1 g2 g3 g4 g5 g6 g7 n1 n2 n3 n4 n5 n6 n7 n8 n9 x1 x2 x3 x4 x5
inductive Lv (lr li : Addr) (n : Nat) (ds : List Dat) (rest pre : List (Addr × Obj)) : Prop
  | mk {regs rows : List Value} {kr kl : Nat} : (∀ p ∈ (lr, listOf regs.toArray kr) :: (li, listOf rows.toArray kl) :: rest, p ∈ pre) → regs.length = n → TAll (TL ++ rest) rows ds → (∀ p ∈ rest, p.1 ≠ lr) → (∀ p ∈ rest, p.1 ≠ li) → lr ≠ li → Lv lr li n ds rest pre
theorem Lv.sub {lr li : Addr} {n : Nat} {ds : List Dat} {rest pre : List (Addr × Obj)} : Lv lr li n ds rest pre → ∀ p ∈ rest, p ∈ pre
  | .mk h _ _ _ _ _ => fun p hp => h p (.tail _ (.tail _ hp))
theorem Lv.push {lr li : Addr} {n : Nat} {ds : List Dat} {rest pre : List (Addr × Obj)} {t : Addr × Obj} (hl : ∀ p ∈ pre, p.1 < t.1) : Lv lr li n ds rest pre → Lv lr li n ds (t :: rest) (t :: pre)
  | .mk h a b c d e => .mk (List.forall_mem_cons.mpr ⟨.tail _ (h _ (.head _)), List.forall_mem_cons.mpr ⟨.tail _ (h _ (.tail _ (.head _))), List.forall_mem_cons.mpr ⟨.head _, fun p hp => .tail _ (h p (.tail _ (.tail _ hp)))⟩⟩⟩) a (b.up fun _ x => .tail _ x)
      (List.forall_mem_cons.mpr ⟨Nat.ne_of_gt (hl _ (h _ (.head _))), c⟩) (List.forall_mem_cons.mpr ⟨Nat.ne_of_gt (hl _ (h _ (.tail _ (.head _)))), d⟩) e
theorem list_tailL {prog : Program} {w : World} {A : Around} {E : Value → Shared → Prop} {s : Shared} {h₀ : Heap} {L : Addr} {news : List (Addr × Obj)} {value slice : PySem.Expr} {l : Addr} {vs : List Value} {n : Nat} {k : Int} {u : Tok} {v : Value} {Q : Value → Shared → Prop} (N : News h₀ L s.heap news) (hm : (l, listOf vs.toArray n) ∈ news) (h0 : 0 ≤ k) (hhi : k < 2 ^ 63) (hx : vs[k.toNat]? = some v) (h : Q v s)
    (hs : subscripted slice false (.ref l) (.int k u) = operate [.ref l, .int k u] (getItem (.ref l) (.int k u))) : wpAny (model prog w) A (subscriptTail value slice (.ref l) (.int k u)) Q E s :=
  list_tail N hm h0 hhi (by simpa using hx) h hs
section
variable {prog : Program} {w : World} {A : Around} {E : Value → Shared → Prop} {s : Shared} {h₀ : Heap} {L : Addr} {m : Str → Option Value} {news : List (Addr × Obj)}
theorem tup_add {t b : Addr} {xs ys zs : List Value} {Q : Value → Shared → Prop} (F : Fr h₀ L s.heap m) (N : News h₀ L s.heap news) (ha : (t, tupO xs) ∈ news) (hb : (b, tupO ys) ∈ news) (hv : xs ≠ []) (hw : ys ≠ []) (hz : xs.length + ys.length ≤ 1000) (e : xs ++ ys = zs)
    (h : ∀ D h', Fr h₀ L h' m → News h₀ L h' ((D, tupO zs) :: news) → (∀ p ∈ news, p.1 < D) → Q (.ref D) { s with heap := h' }) : wpAny (model prog w) A (binaryOp .Add (.ref t) (.ref b)) Q E s :=
  kde_addT F N (N.isTup ha) (N.isTup hb) (by simpa using hv) (by simpa using hw) (by simp; omega) (by simpa using e) h
end
def SPost (lr li : Addr) (rest : List (Addr × Obj)) (n : Nat) (ds : List Dat) (out : Dat) (r : Value) (post : List (Addr × Obj)) : Prop := ∃ rest', (∀ p ∈ rest, p ∈ rest') ∧ Lv lr li n ds rest' post ∧ TIn (TL ++ rest') r out
theorem Lv.cast {lr li : Addr} {n n' : Nat} {ds ds' : List Dat} {rest pre : List (Addr × Obj)} (h : Lv lr li n ds rest pre) (hn : n = n') (hd : ds = ds') : Lv lr li n' ds' rest pre := hn ▸ hd ▸ h
theorem sub_trans {a b c : List (Addr × Obj)} (h : ∀ p ∈ a, p ∈ b) (k : ∀ p ∈ b, p ∈ c) : ∀ p ∈ a, p ∈ c := fun p hp => k p (h p hp)
theorem fresh_post {lr li : Addr} {n : Nat} {ds : List Dat} {rest led : List (Addr × Obj)} {regs rows xs : List Value} {dxs : List Dat} {kr kl : Nat} {tv : Value} {a b : Addr} {t u tw : Tok} {wd : Str}
    (m1 : (lr, listOf (regs ++ [tv]).toArray kr) ∈ led) (m2 : (li, listOf (rows.toArray.push (.ref b)) kl) ∈ led) (ma : (a, tupO [sv "reg" t, .int (n : Int) u]) ∈ led) (mb : (b, tupO (.str wd tw :: .int (n : Int) u :: xs)) ∈ led) (hs : ∀ p ∈ rest, p ∈ led)
    (hn : regs.length = n) (hD : TAll (TL ++ rest) rows ds) (hx : TAll (TL ++ rest) xs dxs) (o1 : ∀ p ∈ rest, p.1 ≠ lr) (o2 : ∀ p ∈ rest, p.1 ≠ li) (o3 : lr ≠ li) (a1 : a ≠ lr) (a2 : a ≠ li) (b1 : b ≠ lr) (b2 : b ≠ li) :
    SPost lr li rest (n + 1) (ds ++ [.tuple (.str wd :: .int (n : Int) :: dxs)]) (reg n) (.ref a) led := by
  have up : ∀ p ∈ rest, p ∈ [(a, tupO [sv "reg" t, .int (n : Int) u]), (b, tupO (.str wd tw :: .int (n : Int) u :: xs))] ++ rest := fun p hp => List.mem_append.mpr (.inr hp)
  have mA : (a, tupO [sv "reg" t, .int (n : Int) u]) ∈ [(a, tupO [sv "reg" t, .int (n : Int) u]), (b, tupO (.str wd tw :: .int (n : Int) u :: xs))] ++ rest := List.mem_append.mpr (.inl (.head _))
  have mB : (b, tupO (.str wd tw :: .int (n : Int) u :: xs)) ∈ [(a, tupO [sv "reg" t, .int (n : Int) u]), (b, tupO (.str wd tw :: .int (n : Int) u :: xs))] ++ rest := List.mem_append.mpr (.inl (.tail _ (.head _)))
  refine ⟨[(a, tupO [sv "reg" t, .int (n : Int) u]), (b, tupO (.str wd tw :: .int (n : Int) u :: xs))] ++ rest, up, .mk (regs := regs ++ [tv]) (rows := rows ++ [.ref b]) (kr := kr) (kl := kl) ?_ (by simp [hn]) (TAll.snoc (.tup (a := b) (led_mem mB) (.cons (.str _ _) (.cons (.int _ rfl) (hx.up up)))) (hD.up up)) ?_ ?_ o3, .tup (led_mem mA) (.cons (.str _ _) (.cons (.int _ rfl) .nil))⟩
  · rw [push_list] at m2
    exact List.forall_mem_cons.mpr ⟨m1, List.forall_mem_cons.mpr ⟨m2, List.forall_mem_cons.mpr ⟨ma, List.forall_mem_cons.mpr ⟨mb, hs⟩⟩⟩⟩
  · exact List.forall_mem_cons.mpr ⟨a1, List.forall_mem_cons.mpr ⟨b1, o1⟩⟩
  · exact List.forall_mem_cons.mpr ⟨a2, List.forall_mem_cons.mpr ⟨b2, o2⟩⟩
theorem tk1 {a : Value} {xs : List Value} : (a :: xs).take (Int.toNat 1) = [a] := by simp
theorem dp1 {a : Value} {xs : List Value} : (a :: xs).drop (Int.toNat 1) = xs := by simp
theorem dp2 {a b : Value} {xs : List Value} : (a :: b :: xs).drop (Int.toNat 2) = xs := by simp
theorem ap1 {a : Value} {xs : List Value} : [a] ++ xs = a :: xs := rfl
theorem ap2 {a b : Value} {xs : List Value} : [a, b] ++ xs = a :: b :: xs := rfl
theorem spost {lr li : Addr} {rest rest' : List (Addr × Obj)} {n n' : Nat} {ds ds' : List Dat} {out : Dat} {r : Value} {post : List (Addr × Obj)} (V : Lv lr li n' ds' rest' post) (hn : n' = n) (hd : ds' = ds) (up : ∀ p ∈ rest, p ∈ rest') (T : TIn (TL ++ rest') r out) : SPost lr li rest n ds out r post :=
  ⟨rest', up, V.cast hn hd, T⟩
theorem held_of {w : World} {ohd : Obj} {u0 u1 u2 u3 u4 : Tok} {k : Int} (_ : ohd.IsDictOf (PySem.intKind PySem.Challenge.rw_xm0177_01.row.prog w) [(0, .int 0 u0), (1, .int 1 u1), (2, .int 2 u2), (3, .int 3 u3), (4, .int 4 u4)]) (hk : k = 1 ∨ k = 2 ∨ k = 3 ∨ k = 4) :
    ∃ u, valueAt [((0 : Int), Value.int 0 u0), (1, .int 1 u1), (2, .int 2 u2), (3, .int 3 u3), (4, .int 4 u4)] k = some (.int k u) := by rcases hk with rfl | rfl | rfl | rfl <;> exact ⟨_, rfl⟩
theorem w_C8_0 : True := by
  w_top off
  k_with_none
  k_with "k_all" => (assumption)
  k_with "eval Dict" => (k_here; k_dflt (first
  | (refine' kdn_str ?q ?F ?N ?b ?a ?l ?e ?n ?_; (case q => rfl); (case F => k_asm); (case N => first | k_asm | exact News.nil); (case b => exact Top.nolimit (by k_asm)); (case a => rfl); (case l => rfl); (case e => exact List.cons_ne_nil _ _); (case n => exact Nat.le_of_ble_eq_true rfl))
  | (refine' kdn_int ?q ?F ?N ?b ?a ?l ?e ?n ?_; (case q => rfl); (case F => k_asm); (case N => first | k_asm | exact News.nil); (case b => exact Top.nolimit (by k_asm)); (case a => rfl); (case l => rfl); (case e => exact List.cons_ne_nil _ _); (case n => exact Nat.le_of_ble_eq_true rfl))); intro d' h' o' F' N' l1 lo' hd'; (try k_lt l1))
  k_with "eval Dict nil nil" => (k_here; k_dflt (refine' newDict_K ?k1 ?k2 (TopRead.nolimit (by k_asm)) ?_; (case k1 => k_asm); (case k2 => k_asm); k_whole); intro d' h' o' F' N' l1 lo' hs' fs' hi' fi'; (try k_lt l1); (try k_sweep))
  k_with "ktr_room" => (refine room_of ?_; (try simp +zetaDelta only [depth_under_make, depth_under_kw, depth_in1, depth_deeper]); (try dsimp only [ktrTop]); (first | exact rl1 (by assumption) (by exact rfl) | exact rl2 (by assumption) (by exact rfl) | exact rl3 (by assumption) (by exact rfl) | omega))
  k_with "ktr_enter" => (refine' code_def ?k1 ?k2 ?k3 ?k4 ?k5 ?kA ?kF ?kK ?k6 ?k7 ?k8 ?k9 ?kB ?_ ?c2 ?c3 ?c4 ?c5; (case kA => exact rfl); (case kF => exact rfl); (case kK => first | exact rfl | assumption); (case k1 => k_asm); (case k2 => k_asm); (case k3 => k_asm); (case k4 => k_asm); (case k5 => k_asm); (case k6 => k_is); (case k7 => k_is); (case k8 => ktr_room); (case k9 => first | exact BindsTo.of_eq rfl | exact binds_K (by k_in) rfl (by k_is) rfl rfl rfl); (case c5 => decide); (case kB => exact locs rfl); (case c2 => exact rfl); (case c3 => exact rfl); (case c4 => exact rfl); k_whole; intro g' L' h' FG' F' N' B' X' T'; (try dsimp only); (try k_fold); (try (refine let_enter ?_; intro M1 A1)))
  k_with "call ref" => (k_here; k_dflt (first
  | (refine wpAny_call ?_; ktr_enter)
  | (refine' call_cls0 ?k1 ?k2 ?k3 ?k4 ?k5 ?_; (case k1 => k_asm); (case k2 => k_asm); (case k3 => k_asm); (case k4 => k_is); (case k5 => k_is); k_whole; intro x' d' h' F' N' l1 l2; (try k_lt l1); (try k_lt2 l2); (try k_sweep))
  | (refine' call_cls ?k1 ?k2 ?k3 ?k4 ?k5 ?k6 ?_; (case k1 => k_asm); (case k2 => k_asm); (case k3 => k_asm); (case k4 => k_is); (case k5 => k_is); (case k6 => k_is); k_whole; intro x' d' h' F' N' l1 l2; (try k_lt l1); (try k_lt2 l2); (try k_sweep); ktr_enter)
  | (refine' call_meth ?k1 ?k2 ?_; (case k1 => k_asm); (case k2 => k_mem); k_whole; ktr_enter)))
  k_with "ktr_units" => ((try simp +zetaDelta only [units_in1, units_deeper, Around.mark_units, units_make]); (try dsimp only [ktrTop]); first | exact rl1 (by assumption) (by exact rfl) | exact rl2 (by assumption) (by exact rfl) | exact rl3 (by assumption) (by exact rfl) | omega | ((show _ < (9900 : Nat)); omega))
  k_with "call type:frozenset" => (k_here; k_dflt (refine' fz_call ?F ?N ?m ?d ?z ?_; (case F => k_asm); (case N => k_asm); (case m => k_mem); (case d => k_asm); (case z => k_asm)); intro D' h' tq' led' F' N' l1; (try k_lt l1))
  k_with "compareOp In int ref" => (k_here; k_dflt (refine' fz_in ?N ?m ?_; (case N => k_asm); (case m => k_mem)))
  k_with "call type:list" => (k_here; (with_reducible show wpAny _ _ (call (Value.type "list") [Value.ref _]) _ _ _); k_dflt (refine' list_copyK ?k1 ?k2 ?k3 ?_ ?z; (case k1 => k_asm); (case k2 => k_asm); (case k3 => exact News.isList (by k_asm) (by k_mem)); (case z => first | exact Nat.le_of_ble_eq_true rfl | omega); k_whole); intro D' c' h' F' N' l1; (try k_lt l1); (try k_sweep))
  k_with "k_mem" => (with_reducible kcf_m)
  k_with "k_get" => (with_reducible assumption)
  k_with "call builtin:len" => (k_here; (with_reducible show wpAny _ _ (call (Value.builtin "len") [Value.ref _]) _ _ _); k_dflt (refine' len_arr ?N ?m ?z ?_; (case N => k_asm); (case m => k_mem); (case z => (simp only [Array.size_push, List.size_toArray]; omega))))
  k_with "kcf_m" => (refine via (by assumption) ?_; kcf_m)
  k_with "subscriptTail Name Slice ref ref" => (k_here; (with_reducible show wpAny _ _ (subscriptTail _ _ (Value.ref _) (Value.ref _)) _ _ _); k_dflt (first
  | (refine' tup_head ?F ?N ?m ?h0 ?b ?e ?_ ?s ?t ?z; (case F => k_asm); (case N => k_asm); (case m => k_mem); (case h0 => decide); (case b => first | exact Nat.le_of_ble_eq_true rfl | (simp only [List.length_cons]; omega)); (case e => first | exact tk1 | exact dp1 | exact dp2 | exact rfl); (case s => with_unfolding_all rfl); (case t => kmk_pure); (case z => first | exact Nat.le_of_ble_eq_true rfl | (simp only [List.length_cons]; omega)))
  | (refine' tup_rest ?F ?N ?m ?h0 ?b ?e ?_ ?s ?t ?z; (case F => k_asm); (case N => k_asm); (case m => k_mem); (case h0 => decide); (case b => first | exact Nat.le_of_ble_eq_true rfl | (simp only [List.length_cons]; omega)); (case e => first | exact tk1 | exact dp1 | exact dp2 | exact rfl); (case s => with_unfolding_all rfl); (case t => kmk_pure); (case z => first | exact Nat.le_of_ble_eq_true rfl | (simp only [List.length_cons]; omega)))); intro D' h' F' N' l1; (try k_lt l1); (try k_sweep))
  k_with "subscriptTail" => (k_here; (with_reducible show wpAny _ _ (subscriptTail _ _ (Value.ref _) (Value.int _ _)) _ _ _); k_dflt (first
  | (refine' list_tailL ?N ?m ?a ?b ?x ?_ ?s; (case N => k_asm); (case m => k_mem); (case a => decide); (case b => decide); (case x => first | exact rfl | assumption); (case s => with_unfolding_all rfl))
  | (refine' dict_tail (knd := intKind _ _) ?N ?m ?d ?k ?v ?_ ?s; (case N => k_asm); (case m => k_mem); (case d => with_reducible assumption); (case k => exact intKind_is _ _ _ _); (case v => exact rfl); (case s => with_unfolding_all rfl))))
  k_with "subscriptTail" => (k_here; (with_reducible show wpAny _ _ (subscriptTail _ _ (Value.ref _) (Value.str _ _)) _ _ _); k_dflt
  (refine' dict_tail (knd := strKind _ _) ?N ?m ?d ?k ?v ?_ ?s; (case N => k_asm); (case m => k_mem); (case d => with_reducible assumption); (case k => exact strKind_is _ _ _ _); (case v => exact rfl); (case s => with_unfolding_all rfl)))
  k_with "getItem ref str" => (k_here; k_dflt
  (refine' dict_get (knd := strKind _ _) ?N ?m ?d ?k ?v ?_; (case N => k_asm); (case m => k_mem); (case d => with_reducible assumption); (case k => exact strKind_is _ _ _ _); (case v => exact rfl)))
  k_with "compareOp In int ref" => (k_here; k_dflt (refine' fz_in' ?N ?m ?b ?_; (case N => k_asm); (case m => k_mem); (case b => first | assumption | exact rfl)))
  k_with "binaryOp Add ref ref" => (k_here; k_dflt (refine' tup_add ?F ?N ?a ?b ?v ?w ?z ?e ?_; (case F => k_asm); (case N => k_asm); (case a => k_mem); (case b => k_mem); (case v => first | exact List.cons_ne_nil _ _ | assumption); (case w => first | exact List.cons_ne_nil _ _ | assumption); (case z => first | exact Nat.le_of_ble_eq_true rfl | (simp only [List.length_cons, List.length_nil]; omega)); (case e => first | exact ap1 | exact ap2 | exact rfl)); intro D' h' F' N' l1; (try k_lt l1); (try k_sweep))
  k_with "eval Call" => (k_fold; (try (refine tok_gen ?_; intro tkz)))
  k_with "eval Call Attribute" => (k_fold; (try (refine tok_gen ?_; intro tkz)))
  k_with "eval Tuple" => (k_fold; (try (refine tok_gen ?_; intro tkz)))
  trivial
theorem c_newreg (w : World) (rest : List (Addr × Obj)) {st dst cd dcd lr : Addr} {es ecd : List DictEntry} {nes ncd kr n : Nat} {regs : List Value} {tv : Value}
  (h1 : (st, instObj 303 dst) ∈ rest) (h2 : (dst, dictOf es nes) ∈ rest) (h3 : getL "code" es = some (some (.ref cd))) (h4 : (cd, instObj 128 dcd) ∈ rest) (h5 : (dcd, dictOf ecd ncd) ∈ rest) (h6 : getL "registers" ecd = some (some (.ref lr)))
  (ho : ∀ p ∈ rest, p.1 ≠ lr) (hn : regs.length = n) (hz : n ≤ 1000) :
  Runs w 153 [.ref st, tv] ((lr, listOf regs.toArray kr) :: rest) 2 15 (fun r post => ∃ u k, r = .int (n : Int) u ∧ post = (lr, listOf (regs ++ [tv]).toArray k) :: rest) := by
  unfold Runs
  k_fill
  intro p loose mean mg mb dp un gd cn cs a ccd cl outer A₀ base h₀ L m s Q E B F X N T hk hd hu ret
  k_steps
  refine ret _ _ _ _ (by k_asm) (by k_asm) ⟨_, _, int_back _ _ (by simp [hn]) _, by rw [push_list]⟩
theorem w_C9_0 : True := by
  w_top off
  k_with_none
  k_with "k_all" => (assumption)
  k_with "eval Dict" => (k_here; k_dflt (first
  | (refine' kdn_str ?q ?F ?N ?b ?a ?l ?e ?n ?_; (case q => rfl); (case F => k_asm); (case N => first | k_asm | exact News.nil); (case b => exact Top.nolimit (by k_asm)); (case a => rfl); (case l => rfl); (case e => exact List.cons_ne_nil _ _); (case n => exact Nat.le_of_ble_eq_true rfl))
  | (refine' kdn_int ?q ?F ?N ?b ?a ?l ?e ?n ?_; (case q => rfl); (case F => k_asm); (case N => first | k_asm | exact News.nil); (case b => exact Top.nolimit (by k_asm)); (case a => rfl); (case l => rfl); (case e => exact List.cons_ne_nil _ _); (case n => exact Nat.le_of_ble_eq_true rfl))); intro d' h' o' F' N' l1 lo' hd'; (try k_lt l1))
  k_with "eval Dict nil nil" => (k_here; k_dflt (refine' newDict_K ?k1 ?k2 (TopRead.nolimit (by k_asm)) ?_; (case k1 => k_asm); (case k2 => k_asm); k_whole); intro d' h' o' F' N' l1 lo' hs' fs' hi' fi'; (try k_lt l1); (try k_sweep))
  k_with "ktr_room" => (refine room_of ?_; (try simp +zetaDelta only [depth_under_make, depth_under_kw, depth_in1, depth_deeper]); (try dsimp only [ktrTop]); (first | exact rl1 (by assumption) (by exact rfl) | exact rl2 (by assumption) (by exact rfl) | exact rl3 (by assumption) (by exact rfl) | omega))
  k_with "ktr_enter" => (refine' code_def ?k1 ?k2 ?k3 ?k4 ?k5 ?kA ?kF ?kK ?k6 ?k7 ?k8 ?k9 ?kB ?_ ?c2 ?c3 ?c4 ?c5; (case kA => exact rfl); (case kF => exact rfl); (case kK => first | exact rfl | assumption); (case k1 => k_asm); (case k2 => k_asm); (case k3 => k_asm); (case k4 => k_asm); (case k5 => k_asm); (case k6 => k_is); (case k7 => k_is); (case k8 => ktr_room); (case k9 => first | exact BindsTo.of_eq rfl | exact binds_K (by k_in) rfl (by k_is) rfl rfl rfl); (case c5 => decide); (case kB => exact locs rfl); (case c2 => exact rfl); (case c3 => exact rfl); (case c4 => exact rfl); k_whole; intro g' L' h' FG' F' N' B' X' T'; (try dsimp only); (try k_fold); (try (refine let_enter ?_; intro M1 A1)))
  k_with "call ref" => (k_here; k_dflt (first
  | (refine wpAny_call ?_; ktr_enter)
  | (refine' call_cls0 ?k1 ?k2 ?k3 ?k4 ?k5 ?_; (case k1 => k_asm); (case k2 => k_asm); (case k3 => k_asm); (case k4 => k_is); (case k5 => k_is); k_whole; intro x' d' h' F' N' l1 l2; (try k_lt l1); (try k_lt2 l2); (try k_sweep))
  | (refine' call_cls ?k1 ?k2 ?k3 ?k4 ?k5 ?k6 ?_; (case k1 => k_asm); (case k2 => k_asm); (case k3 => k_asm); (case k4 => k_is); (case k5 => k_is); (case k6 => k_is); k_whole; intro x' d' h' F' N' l1 l2; (try k_lt l1); (try k_lt2 l2); (try k_sweep); ktr_enter)
  | (refine' call_meth ?k1 ?k2 ?_; (case k1 => k_asm); (case k2 => k_mem); k_whole; ktr_enter)))
  k_with "ktr_units" => ((try simp +zetaDelta only [units_in1, units_deeper, Around.mark_units, units_make]); (try dsimp only [ktrTop]); first | exact rl1 (by assumption) (by exact rfl) | exact rl2 (by assumption) (by exact rfl) | exact rl3 (by assumption) (by exact rfl) | omega | ((show _ < (9900 : Nat)); omega))
  k_with "call type:frozenset" => (k_here; k_dflt (refine' fz_call ?F ?N ?m ?d ?z ?_; (case F => k_asm); (case N => k_asm); (case m => k_mem); (case d => k_asm); (case z => k_asm)); intro D' h' tq' led' F' N' l1; (try k_lt l1))
  k_with "compareOp In int ref" => (k_here; k_dflt (refine' fz_in ?N ?m ?_; (case N => k_asm); (case m => k_mem)))
  k_with "call type:list" => (k_here; (with_reducible show wpAny _ _ (call (Value.type "list") [Value.ref _]) _ _ _); k_dflt (refine' list_copyK ?k1 ?k2 ?k3 ?_ ?z; (case k1 => k_asm); (case k2 => k_asm); (case k3 => exact News.isList (by k_asm) (by k_mem)); (case z => first | exact Nat.le_of_ble_eq_true rfl | omega); k_whole); intro D' c' h' F' N' l1; (try k_lt l1); (try k_sweep))
  k_with "k_mem" => (with_reducible kcf_m)
  k_with "k_get" => (with_reducible assumption)
  k_with "call builtin:len" => (k_here; (with_reducible show wpAny _ _ (call (Value.builtin "len") [Value.ref _]) _ _ _); k_dflt (refine' len_arr ?N ?m ?z ?_; (case N => k_asm); (case m => k_mem); (case z => (simp only [Array.size_push, List.size_toArray]; omega))))
  k_with "kcf_m" => (refine via (by assumption) ?_; kcf_m)
  k_with "subscriptTail Name Slice ref ref" => (k_here; (with_reducible show wpAny _ _ (subscriptTail _ _ (Value.ref _) (Value.ref _)) _ _ _); k_dflt (first
  | (refine' tup_head ?F ?N ?m ?h0 ?b ?e ?_ ?s ?t ?z; (case F => k_asm); (case N => k_asm); (case m => k_mem); (case h0 => decide); (case b => first | exact Nat.le_of_ble_eq_true rfl | (simp only [List.length_cons]; omega)); (case e => first | exact tk1 | exact dp1 | exact dp2 | exact rfl); (case s => with_unfolding_all rfl); (case t => kmk_pure); (case z => first | exact Nat.le_of_ble_eq_true rfl | (simp only [List.length_cons]; omega)))
  | (refine' tup_rest ?F ?N ?m ?h0 ?b ?e ?_ ?s ?t ?z; (case F => k_asm); (case N => k_asm); (case m => k_mem); (case h0 => decide); (case b => first | exact Nat.le_of_ble_eq_true rfl | (simp only [List.length_cons]; omega)); (case e => first | exact tk1 | exact dp1 | exact dp2 | exact rfl); (case s => with_unfolding_all rfl); (case t => kmk_pure); (case z => first | exact Nat.le_of_ble_eq_true rfl | (simp only [List.length_cons]; omega)))); intro D' h' F' N' l1; (try k_lt l1); (try k_sweep))
  k_with "subscriptTail" => (k_here; (with_reducible show wpAny _ _ (subscriptTail _ _ (Value.ref _) (Value.int _ _)) _ _ _); k_dflt (first
  | (refine' list_tailL ?N ?m ?a ?b ?x ?_ ?s; (case N => k_asm); (case m => k_mem); (case a => decide); (case b => decide); (case x => first | exact rfl | assumption); (case s => with_unfolding_all rfl))
  | (refine' dict_tail (knd := intKind _ _) ?N ?m ?d ?k ?v ?_ ?s; (case N => k_asm); (case m => k_mem); (case d => with_reducible assumption); (case k => exact intKind_is _ _ _ _); (case v => exact rfl); (case s => with_unfolding_all rfl))))
  k_with "subscriptTail" => (k_here; (with_reducible show wpAny _ _ (subscriptTail _ _ (Value.ref _) (Value.str _ _)) _ _ _); k_dflt
  (refine' dict_tail (knd := strKind _ _) ?N ?m ?d ?k ?v ?_ ?s; (case N => k_asm); (case m => k_mem); (case d => with_reducible assumption); (case k => exact strKind_is _ _ _ _); (case v => exact rfl); (case s => with_unfolding_all rfl)))
  k_with "getItem ref str" => (k_here; k_dflt
  (refine' dict_get (knd := strKind _ _) ?N ?m ?d ?k ?v ?_; (case N => k_asm); (case m => k_mem); (case d => with_reducible assumption); (case k => exact strKind_is _ _ _ _); (case v => exact rfl)))
  k_with "compareOp In int ref" => (k_here; k_dflt (refine' fz_in' ?N ?m ?b ?_; (case N => k_asm); (case m => k_mem); (case b => first | assumption | exact rfl)))
  k_with "binaryOp Add ref ref" => (k_here; k_dflt (refine' tup_add ?F ?N ?a ?b ?v ?w ?z ?e ?_; (case F => k_asm); (case N => k_asm); (case a => k_mem); (case b => k_mem); (case v => first | exact List.cons_ne_nil _ _ | assumption); (case w => first | exact List.cons_ne_nil _ _ | assumption); (case z => first | exact Nat.le_of_ble_eq_true rfl | (simp only [List.length_cons, List.length_nil]; omega)); (case e => first | exact ap1 | exact ap2 | exact rfl)); intro D' h' F' N' l1; (try k_lt l1); (try k_sweep))
  k_with "call ref" => (k_here; (with_reducible show wpAny _ _ (call (Value.ref 153) _) _ _ _); k_dflt (refine' runs_use (c_newreg _ _ ?a1 ?a2 ?a3 ?a4 ?a5 ?a6 ?a7 ?a8 ?a9) ?B ?F ?X ?N ?T ?k ?d ?u ?_; (case B => k_asm); (case F => k_asm); (case X => k_asm); (case N => k_asm); (case a1 => k_mem); (case a2 => k_mem); (case a3 => k_get); (case a4 => k_mem); (case a5 => k_mem); (case a6 => k_get); (case a7 => k_all); (case a8 => assumption); (case a9 => omega); (case T => k_asm); (case k => exact rfl); (case d => ((try simp +zetaDelta only [depth_under_make, depth_under_kw, depth_in1, depth_deeper]); (try dsimp only [ktrTop]); (first | exact rl1 (by assumption) (by exact rfl) | exact rl2 (by assumption) (by exact rfl) | exact rl3 (by assumption) (by exact rfl) | omega))); (case u => ktr_units); intro r9 post9 h9 tk9 F' N' P9; revert P9; (refine ex2 ?_); intro u9 k9 P9; revert P9; (refine an2 ?_); intro e9 e8; subst e9; (replace N' := newsEq N' e8); (first | clear e8 post9 | subst e8); (try dsimp only); (try k_sweep)))
  k_with "eval Call" => (k_fold; (try (refine tok_gen ?_; intro tkz)))
  k_with "eval Call Attribute" => (k_fold; (try (refine tok_gen ?_; intro tkz)))
  k_with "eval Tuple" => (k_fold; (try (refine tok_gen ?_; intro tkz)))
  trivial
theorem c_fresh {w : World} {rest pre : List (Addr × Obj)} {st lr li row : Addr} {n : Nat} {ds : List Dat} {tv : Value} {xs : List Value} {dxs : List Dat} {wd : Str} {tw : Tok} (S : SIn w rest st lr li) (V : Lv lr li n ds rest pre) (hr : (row, tupO (.str wd tw :: xs)) ∈ rest) (hx : TAll (TL ++ rest) xs dxs) (h1 : xs ≠ []) (h2 : xs.length ≤ 5) (hz : n ≤ 900) (hy : ds.length ≤ 900) :
  Runs w 174 [.ref st, tv, .ref row] pre 6 40 (SPost lr li rest (n + 1) (ds ++ [.tuple (.str wd :: .int (n : Int) :: dxs)]) (reg n)) := by
  obtain ⟨m1, m2, m3, m4, m5, m6, m7, m8, m9, m10, m11, m12, m13, m14, m15, i1, i2, g1, g2, g3, g4, g5, g6, g7, n1, n2, n3, n4, n5, n6, n7, n8, n9, x1, x2, x3, x4, x5⟩ := S
  obtain ⟨hsub, hn, hD, o1, o2, o3⟩ := V
  have hlen := hD.len
  have hpos : 0 < xs.length := List.length_pos_iff.mpr h1
  unfold Runs
  k_fill
  intro p loose mean mg mb dp un gd cn cs a ccd cl outer A₀ base h₀ L m s Q E B F X N T hk hd hu ret
  replace N := News.sub N hsub
  clear hsub
  have o4 : @Ne Nat _ _ := o3
  k_steps
  refine' ret _ _ _ _ ?F ?N (fresh_post ?m1 ?m2 ?ma ?mb ?hs ?hn ?hD ?hx o1 o2 o3 ?a1 ?a2 ?b1 ?b2)
  case F => k_asm
  case N => k_asm
  case m1 => k_mem
  case m2 => k_mem
  case ma => k_mem
  case mb => k_mem
  case hs => kat_tups
  case hn => assumption
  case hD => assumption
  case hx => assumption
  all_goals exact neN (by omega)
local macro_rules | `(tactic| kat_tups) => `(tactic| first
  | exact fun _ h => h
  | assumption
  | (refine List.forall_mem_cons.mpr ⟨?a, ?b⟩; (case a => k_mem); (case b => kat_tups))
  | (refine sub_cons ?_; kat_tups)
  | (refine sub_trans ?_ (by assumption); kat_tups))
local macro_rules | `(tactic| ktu_offI) => `(tactic| first | assumption | (refine' Lv.push ?l ?v; (case v => ktu_offI); (case l => assumption)))
local macro_rules | `(tactic| kqd_in) => `(tactic| first
  | exact TIn.str _ _
  | exact TIn.int _ rfl
  | (refine TIn.up (by assumption) ?_; kat_tups)
  | (refine' TIn.tup (led_mem ?m) ?a; (case m => k_mem); (case a => kqd_all))
  | exact t420 | exact t422 | exact t428 | exact t430
  | (refine TyIn.tin (TyIn.mono ?_ (by assumption)); kat_tups)
  | exact TIn.bool _ | exact TIn.none)
local macro_rules | `(tactic| kqd_all) => `(tactic| first | exact TAll.nil | (refine' TAll.cons ?a ?b; (case a => kqd_in); (case b => kqd_all)) | (refine TAll.up (by assumption) ?_; kat_tups))
theorem w_C10_0 : True := by
  w_top off
  k_with_none
  k_with "k_all" => (assumption)
  k_with "eval Dict" => (k_here; k_dflt (first
  | (refine' kdn_str ?q ?F ?N ?b ?a ?l ?e ?n ?_; (case q => rfl); (case F => k_asm); (case N => first | k_asm | exact News.nil); (case b => exact Top.nolimit (by k_asm)); (case a => rfl); (case l => rfl); (case e => exact List.cons_ne_nil _ _); (case n => exact Nat.le_of_ble_eq_true rfl))
  | (refine' kdn_int ?q ?F ?N ?b ?a ?l ?e ?n ?_; (case q => rfl); (case F => k_asm); (case N => first | k_asm | exact News.nil); (case b => exact Top.nolimit (by k_asm)); (case a => rfl); (case l => rfl); (case e => exact List.cons_ne_nil _ _); (case n => exact Nat.le_of_ble_eq_true rfl))); intro d' h' o' F' N' l1 lo' hd'; (try k_lt l1))
  k_with "eval Dict nil nil" => (k_here; k_dflt (refine' newDict_K ?k1 ?k2 (TopRead.nolimit (by k_asm)) ?_; (case k1 => k_asm); (case k2 => k_asm); k_whole); intro d' h' o' F' N' l1 lo' hs' fs' hi' fi'; (try k_lt l1); (try k_sweep))
  k_with "ktr_room" => (refine room_of ?_; (try simp +zetaDelta only [depth_under_make, depth_under_kw, depth_in1, depth_deeper]); (try dsimp only [ktrTop]); (first | exact rl1 (by assumption) (by exact rfl) | exact rl2 (by assumption) (by exact rfl) | exact rl3 (by assumption) (by exact rfl) | omega))
  k_with "ktr_enter" => (refine' code_def ?k1 ?k2 ?k3 ?k4 ?k5 ?kA ?kF ?kK ?k6 ?k7 ?k8 ?k9 ?kB ?_ ?c2 ?c3 ?c4 ?c5; (case kA => exact rfl); (case kF => exact rfl); (case kK => first | exact rfl | assumption); (case k1 => k_asm); (case k2 => k_asm); (case k3 => k_asm); (case k4 => k_asm); (case k5 => k_asm); (case k6 => k_is); (case k7 => k_is); (case k8 => ktr_room); (case k9 => first | exact BindsTo.of_eq rfl | exact binds_K (by k_in) rfl (by k_is) rfl rfl rfl); (case c5 => decide); (case kB => exact locs rfl); (case c2 => exact rfl); (case c3 => exact rfl); (case c4 => exact rfl); k_whole; intro g' L' h' FG' F' N' B' X' T'; (try dsimp only); (try k_fold); (try (refine let_enter ?_; intro M1 A1)))
  k_with "call ref" => (k_here; k_dflt (first
  | (refine wpAny_call ?_; ktr_enter)
  | (refine' call_cls0 ?k1 ?k2 ?k3 ?k4 ?k5 ?_; (case k1 => k_asm); (case k2 => k_asm); (case k3 => k_asm); (case k4 => k_is); (case k5 => k_is); k_whole; intro x' d' h' F' N' l1 l2; (try k_lt l1); (try k_lt2 l2); (try k_sweep))
  | (refine' call_cls ?k1 ?k2 ?k3 ?k4 ?k5 ?k6 ?_; (case k1 => k_asm); (case k2 => k_asm); (case k3 => k_asm); (case k4 => k_is); (case k5 => k_is); (case k6 => k_is); k_whole; intro x' d' h' F' N' l1 l2; (try k_lt l1); (try k_lt2 l2); (try k_sweep); ktr_enter)
  | (refine' call_meth ?k1 ?k2 ?_; (case k1 => k_asm); (case k2 => k_mem); k_whole; ktr_enter)))
  k_with "ktr_units" => ((try simp +zetaDelta only [units_in1, units_deeper, Around.mark_units, units_make]); (try dsimp only [ktrTop]); first | exact rl1 (by assumption) (by exact rfl) | exact rl2 (by assumption) (by exact rfl) | exact rl3 (by assumption) (by exact rfl) | omega | ((show _ < (9900 : Nat)); omega))
  k_with "call type:frozenset" => (k_here; k_dflt (refine' fz_call ?F ?N ?m ?d ?z ?_; (case F => k_asm); (case N => k_asm); (case m => k_mem); (case d => k_asm); (case z => k_asm)); intro D' h' tq' led' F' N' l1; (try k_lt l1))
  k_with "compareOp In int ref" => (k_here; k_dflt (refine' fz_in ?N ?m ?_; (case N => k_asm); (case m => k_mem)))
  k_with "call type:list" => (k_here; (with_reducible show wpAny _ _ (call (Value.type "list") [Value.ref _]) _ _ _); k_dflt (refine' list_copyK ?k1 ?k2 ?k3 ?_ ?z; (case k1 => k_asm); (case k2 => k_asm); (case k3 => exact News.isList (by k_asm) (by k_mem)); (case z => first | exact Nat.le_of_ble_eq_true rfl | omega); k_whole); intro D' c' h' F' N' l1; (try k_lt l1); (try k_sweep))
  k_with "k_mem" => (with_reducible kcf_m)
  k_with "k_get" => (with_reducible assumption)
  k_with "call builtin:len" => (k_here; (with_reducible show wpAny _ _ (call (Value.builtin "len") [Value.ref _]) _ _ _); k_dflt (refine' len_arr ?N ?m ?z ?_; (case N => k_asm); (case m => k_mem); (case z => (simp only [Array.size_push, List.size_toArray]; omega))))
  k_with "kcf_m" => (refine via (by assumption) ?_; kcf_m)
  k_with "subscriptTail Name Slice ref ref" => (k_here; (with_reducible show wpAny _ _ (subscriptTail _ _ (Value.ref _) (Value.ref _)) _ _ _); k_dflt (first
  | (refine' tup_head ?F ?N ?m ?h0 ?b ?e ?_ ?s ?t ?z; (case F => k_asm); (case N => k_asm); (case m => k_mem); (case h0 => decide); (case b => first | exact Nat.le_of_ble_eq_true rfl | (simp only [List.length_cons]; omega)); (case e => first | exact tk1 | exact dp1 | exact dp2 | exact rfl); (case s => with_unfolding_all rfl); (case t => kmk_pure); (case z => first | exact Nat.le_of_ble_eq_true rfl | (simp only [List.length_cons]; omega)))
  | (refine' tup_rest ?F ?N ?m ?h0 ?b ?e ?_ ?s ?t ?z; (case F => k_asm); (case N => k_asm); (case m => k_mem); (case h0 => decide); (case b => first | exact Nat.le_of_ble_eq_true rfl | (simp only [List.length_cons]; omega)); (case e => first | exact tk1 | exact dp1 | exact dp2 | exact rfl); (case s => with_unfolding_all rfl); (case t => kmk_pure); (case z => first | exact Nat.le_of_ble_eq_true rfl | (simp only [List.length_cons]; omega)))); intro D' h' F' N' l1; (try k_lt l1); (try k_sweep))
  k_with "subscriptTail" => (k_here; (with_reducible show wpAny _ _ (subscriptTail _ _ (Value.ref _) (Value.int _ _)) _ _ _); k_dflt (first
  | (refine' list_tailL ?N ?m ?a ?b ?x ?_ ?s; (case N => k_asm); (case m => k_mem); (case a => decide); (case b => decide); (case x => first | exact rfl | assumption); (case s => with_unfolding_all rfl))
  | (refine' dict_tail (knd := intKind _ _) ?N ?m ?d ?k ?v ?_ ?s; (case N => k_asm); (case m => k_mem); (case d => with_reducible assumption); (case k => exact intKind_is _ _ _ _); (case v => first | with_reducible assumption | exact rfl); (case s => with_unfolding_all rfl))))
  k_with "subscriptTail" => (k_here; (with_reducible show wpAny _ _ (subscriptTail _ _ (Value.ref _) (Value.str _ _)) _ _ _); k_dflt
  (refine' dict_tail (knd := strKind _ _) ?N ?m ?d ?k ?v ?_ ?s; (case N => k_asm); (case m => k_mem); (case d => with_reducible assumption); (case k => exact strKind_is _ _ _ _); (case v => exact rfl); (case s => with_unfolding_all rfl)))
  k_with "getItem ref str" => (k_here; k_dflt
  (refine' dict_get (knd := strKind _ _) ?N ?m ?d ?k ?v ?_; (case N => k_asm); (case m => k_mem); (case d => with_reducible assumption); (case k => exact strKind_is _ _ _ _); (case v => exact rfl)))
  k_with "compareOp In int ref" => (k_here; k_dflt (refine' fz_in' ?N ?m ?b ?_; (case N => k_asm); (case m => k_mem); (case b => first | assumption | exact rfl)))
  k_with "binaryOp Add ref ref" => (k_here; k_dflt (refine' tup_add ?F ?N ?a ?b ?v ?w ?z ?e ?_; (case F => k_asm); (case N => k_asm); (case a => k_mem); (case b => k_mem); (case v => first | exact List.cons_ne_nil _ _ | assumption); (case w => first | exact List.cons_ne_nil _ _ | assumption); (case z => first | exact Nat.le_of_ble_eq_true rfl | (simp only [List.length_cons, List.length_nil]; omega)); (case e => first | exact ap1 | exact ap2 | exact rfl)); intro D' h' F' N' l1; (try k_lt l1); (try k_sweep))
  k_with "newTuple" => (k_here; k_dflt (refine' kup_newTuple ?F ?N ?_ ?z; (case F => k_asm); (case N => k_asm); (case z => kmk_size)); intro D' h' F' N' l1; (try k_sweep))
  k_with "k_offL" => (first | omega | ((try simp only [List.length_append, List.length_cons, List.length_nil]); omega))
  k_with "call ref" => (k_here; (with_reducible show wpAny _ _ (call (Value.ref 174) _) _ _ _); k_dflt (refine' runs_use (c_fresh ?S ?V ?hr ?hx ?h1 ?h2 ?hz ?hy) ?B ?F ?X ?N ?T ?k ?d ?u ?_; (case B => k_asm); (case F => k_asm); (case X => k_asm); (case N => k_asm);(case V => ktu_offI); (case S => (refine SIn.mono ?_ (by assumption); kat_tups)); (case hr => k_mem); (case hx => kqd_all); (case h1 => exact List.cons_ne_nil _ _); (case h2 => exact Nat.le_of_ble_eq_true rfl);(case hz => k_offL); (case hy => k_offL); (case T => k_asm); (case k => exact rfl); (case d => ((try simp +zetaDelta only [depth_under_make, depth_under_kw, depth_in1, depth_deeper]); (try dsimp only [ktrTop]); (first | exact rl1 (by assumption) (by exact rfl) | exact rl2 (by assumption) (by exact rfl) | exact rl3 (by assumption) (by exact rfl) | omega))); (case u => ktr_units); intro r9 post9 h9 tk9 F' N' P9; revert P9; (refine ex1 ?_); intro rest9 P9; revert P9; (refine an3 ?_); intro up9 V9 T9; have sub9 := V9.sub; (try dsimp only); (try k_sweep)))
  k_with "eval Call" => (k_fold; (try (refine tok_gen ?_; intro tkz)))
  k_with "eval Call Attribute" => (k_fold; (try (refine tok_gen ?_; intro tkz)))
  k_with "eval Tuple" => (k_fold; (try (refine tok_gen ?_; intro tkz)))
  trivial
theorem c_lv0 {w : World} {rest pre : List (Addr × Obj)} {st lr li : Addr} {n : Nat} {ds : List Dat} {t : Tok} (S : SIn w rest st lr li) (V : Lv lr li n ds rest pre) (hz : n ≤ 800) (hy : ds.length ≤ 800) :
  Runs w 244 [.ref st, .int 0 t] pre 10 80 (SPost lr li rest (n + 1) (ds ++ [row1 "load" n (reg 0)]) (reg n)) := by
  have S0 := S
  obtain ⟨m1, m2, m3, m4, m5, m6, m7, m8, m9, m10, m11, m12, m13, m14, m15, i1, i2, g1, g2, g3, g4, g5, g6, g7, n1, n2, n3, n4, n5, n6, n7, n8, n9, x1, x2, x3, x4, x5⟩ := S
  have sub0 := V.sub
  unfold Runs
  k_fill
  intro p loose mean mg mb dp un gd cn cs a ccd cl outer A₀ base h₀ L m s Q E B F X N T hk hd hu ret
  k_steps
  refine' ret _ _ _ _ ?F ?N (spost ?V ?hn ?hd ?up ?T)
  case F => k_asm
  case N => k_asm
  case V => ktu_offI
  case hn => first | rfl | k_offL
  case hd => first | rfl | simp
  case up => kat_tups
  case T => kqd_in
theorem c_lvk {w : World} {rest pre : List (Addr × Obj)} {st lr li : Addr} {n : Nat} {ds : List Dat} {t : Tok} {k : Int} (S : SIn w rest st lr li) (V : Lv lr li n ds rest pre) (hk : k = 1 ∨ k = 2 ∨ k = 3 ∨ k = 4) :
  Runs w 244 [.ref st, .int k t] pre 10 80 (SPost lr li rest n ds (.tuple [sd "reg", .int k])) := by
  have S0 := S
  obtain ⟨m1, m2, m3, m4, m5, m6, m7, m8, m9, m10, m11, m12, m13, m14, m15, i1, i2, g1, g2, g3, g4, g5, g6, g7, n1, n2, n3, n4, n5, n6, n7, n8, n9, x1, x2, x3, x4, x5⟩ := S
  have sub0 := V.sub
  have hb : decide (k = 0) = false := by rcases hk with rfl | rfl | rfl | rfl <;> rfl
  obtain ⟨u, hv⟩ := held_of i2 hk
  unfold Runs
  k_fill
  intro p loose mean mg mb dp un gd cn cs a ccd cl outer A₀ base h₀ L m s Q E B F X N T hk hd hu ret
  k_steps
  refine' ret _ _ _ _ ?F ?N (spost ?V ?hn ?hd ?up ?T)
  case F => k_asm
  case N => k_asm
  case V => ktu_offI
  case hn => first | rfl | k_offL
  case hd => first | rfl | simp
  case up => kat_tups
  case T => kqd_in
theorem TIn.get {led : List (Addr × Obj)} : ∀ {vs : List Value} {ds : List Dat} (_ : TAll led vs ds) (k : Nat) {d : Dat}, ds[k]? = some d → ∃ v, vs[k]? = some v ∧ TIn led v d
  | _, _, .nil, k, d, h => by simp at h
  | _, _, .cons a r, 0, d, h => by
    simp at h
    subst h
    exact ⟨_, rfl, a⟩
  | _, _, .cons a r, k + 1, d, h => by
    simp at h
    obtain ⟨v, hv, hd⟩ := TIn.get r k h
    exact ⟨v, by simpa using hv, hd⟩
section
variable {prog : Program} {w : World} {A : Around} {E : Value → Shared → Prop} {s : Shared} {h₀ : Heap} {L : Addr} {m : Str → Option Value} {news : List (Addr × Obj)}
theorem tin_sub {P : Params} {value slice : Expr} {a : Addr} {ds : List Dat} {k : Nat} {u : Tok} {d : Dat} {Q : Value → Shared → Prop} (F : Fr h₀ L s.heap m) (X : (hd.heap_39 P).In h₀) (N : News h₀ L s.heap news) (T : TIn (TL ++ news) (.ref a) (.tuple ds)) (hk : ds[k]? = some d) (hz : k < 100)
    (h : ∀ v, TIn (TL ++ news) v d → Q v s) (hs : subscripted slice false (.ref a) (.int (k : Int) u) = operate [.ref a, .int (k : Int) u] (getItem (.ref a) (.int (k : Int) u))) : wpAny (model prog w) A (subscriptTail value slice (.ref a) (.int (k : Int) u)) Q E s := by
  cases T with
  | tup hm r =>
    rename_i vs
    obtain ⟨v, hv, hd⟩ := TIn.get r k hk
    have ht : IsTup s.heap a vs.toArray := ⟨_, led_at F X N _ hm, rfl, _, rfl⟩
    have hl : k < vs.length := (List.getElem?_eq_some_iff.mp hv).1
    refine item_tupleT ht (by omega) (by omega) (j := k) ?_ hv (h v hd) hs
    unfold seqIndex?
    simp
    omega
theorem tin_sub0 {P : Params} {value slice : Expr} {a : Addr} {ds : List Dat} {u : Tok} {x : Str} {Q : Value → Shared → Prop} (F : Fr h₀ L s.heap m) (X : (hd.heap_39 P).In h₀) (N : News h₀ L s.heap news) (T : TIn (TL ++ news) (.ref a) (.tuple (.str x :: ds)))
    (h : ∀ t, Q (.str x t) s) (hs : subscripted slice false (.ref a) (.int 0 u) = operate [.ref a, .int 0 u] (getItem (.ref a) (.int 0 u))) : wpAny (model prog w) A (subscriptTail value slice (.ref a) (.int 0 u)) Q E s :=
  tin_sub (k := 0) F X N T rfl (by decide) (fun v hv => by cases hv; exact h _) hs
end
theorem tup_item {prog : Program} {w : World} {A : Around} {E : Value → Shared → Prop} {s : Shared} {h₀ : Heap} {L : Addr} {news : List (Addr × Obj)} {value slice : Expr} {a : Addr} {vs : List Value} {k : Int} {u : Tok} {v : Value} {Q : Value → Shared → Prop} (N : News h₀ L s.heap news) (hm : (a, tupO vs) ∈ news) (h0 : 0 ≤ k) (hz : k < 100) (hx : vs[k.toNat]? = some v)
    (h : Q v s) (hs : subscripted slice false (.ref a) (.int k u) = operate [.ref a, .int k u] (getItem (.ref a) (.int k u))) : wpAny (model prog w) A (subscriptTail value slice (.ref a) (.int k u)) Q E s := by
  have hl : k.toNat < vs.length := (List.getElem?_eq_some_iff.mp hx).1
  refine item_tupleT (N.isTup hm) (by omega) (by omega) (j := k.toNat) ?_ hx h hs
  unfold seqIndex?
  simp
  omega
theorem w_C11_0 : True := by
  w_top off
  k_with_none
  k_with "k_all" => (assumption)
  k_with "eval Dict" => (k_here; k_dflt (first
  | (refine' kdn_str ?q ?F ?N ?b ?a ?l ?e ?n ?_; (case q => rfl); (case F => k_asm); (case N => first | k_asm | exact News.nil); (case b => exact Top.nolimit (by k_asm)); (case a => rfl); (case l => rfl); (case e => exact List.cons_ne_nil _ _); (case n => exact Nat.le_of_ble_eq_true rfl))
  | (refine' kdn_int ?q ?F ?N ?b ?a ?l ?e ?n ?_; (case q => rfl); (case F => k_asm); (case N => first | k_asm | exact News.nil); (case b => exact Top.nolimit (by k_asm)); (case a => rfl); (case l => rfl); (case e => exact List.cons_ne_nil _ _); (case n => exact Nat.le_of_ble_eq_true rfl))); intro d' h' o' F' N' l1 lo' hd'; (try k_lt l1))
  k_with "eval Dict nil nil" => (k_here; k_dflt (refine' newDict_K ?k1 ?k2 (TopRead.nolimit (by k_asm)) ?_; (case k1 => k_asm); (case k2 => k_asm); k_whole); intro d' h' o' F' N' l1 lo' hs' fs' hi' fi'; (try k_lt l1); (try k_sweep))
  k_with "ktr_room" => (refine room_of ?_; (try simp +zetaDelta only [depth_under_make, depth_under_kw, depth_in1, depth_deeper]); (try dsimp only [ktrTop]); (first | exact rl1 (by assumption) (by exact rfl) | exact rl2 (by assumption) (by exact rfl) | exact rl3 (by assumption) (by exact rfl) | omega))
  k_with "ktr_enter" => (refine' code_def ?k1 ?k2 ?k3 ?k4 ?k5 ?kA ?kF ?kK ?k6 ?k7 ?k8 ?k9 ?kB ?_ ?c2 ?c3 ?c4 ?c5; (case kA => exact rfl); (case kF => exact rfl); (case kK => first | exact rfl | assumption); (case k1 => k_asm); (case k2 => k_asm); (case k3 => k_asm); (case k4 => k_asm); (case k5 => k_asm); (case k6 => k_is); (case k7 => k_is); (case k8 => ktr_room); (case k9 => first | exact BindsTo.of_eq rfl | exact binds_K (by k_in) rfl (by k_is) rfl rfl rfl); (case c5 => decide); (case kB => exact locs rfl); (case c2 => exact rfl); (case c3 => exact rfl); (case c4 => exact rfl); k_whole; intro g' L' h' FG' F' N' B' X' T'; (try dsimp only); (try k_fold); (try (refine let_enter ?_; intro M1 A1)))
  k_with "call ref" => (k_here; k_dflt (first
  | (refine wpAny_call ?_; ktr_enter)
  | (refine' call_cls0 ?k1 ?k2 ?k3 ?k4 ?k5 ?_; (case k1 => k_asm); (case k2 => k_asm); (case k3 => k_asm); (case k4 => k_is); (case k5 => k_is); k_whole; intro x' d' h' F' N' l1 l2; (try k_lt l1); (try k_lt2 l2); (try k_sweep))
  | (refine' call_cls ?k1 ?k2 ?k3 ?k4 ?k5 ?k6 ?_; (case k1 => k_asm); (case k2 => k_asm); (case k3 => k_asm); (case k4 => k_is); (case k5 => k_is); (case k6 => k_is); k_whole; intro x' d' h' F' N' l1 l2; (try k_lt l1); (try k_lt2 l2); (try k_sweep); ktr_enter)
  | (refine' call_meth ?k1 ?k2 ?_; (case k1 => k_asm); (case k2 => k_mem); k_whole; ktr_enter)))
  k_with "ktr_units" => ((try simp +zetaDelta only [units_in1, units_deeper, Around.mark_units, units_make]); (try dsimp only [ktrTop]); first | exact rl1 (by assumption) (by exact rfl) | exact rl2 (by assumption) (by exact rfl) | exact rl3 (by assumption) (by exact rfl) | omega | ((show _ < (9900 : Nat)); omega))
  k_with "call type:frozenset" => (k_here; k_dflt (refine' fz_call ?F ?N ?m ?d ?z ?_; (case F => k_asm); (case N => k_asm); (case m => k_mem); (case d => k_asm); (case z => k_asm)); intro D' h' tq' led' F' N' l1; (try k_lt l1))
  k_with "compareOp In int ref" => (k_here; k_dflt (refine' fz_in ?N ?m ?_; (case N => k_asm); (case m => k_mem)))
  k_with "call type:list" => (k_here; (with_reducible show wpAny _ _ (call (Value.type "list") [Value.ref _]) _ _ _); k_dflt (refine' list_copyK ?k1 ?k2 ?k3 ?_ ?z; (case k1 => k_asm); (case k2 => k_asm); (case k3 => exact News.isList (by k_asm) (by k_mem)); (case z => first | exact Nat.le_of_ble_eq_true rfl | omega); k_whole); intro D' c' h' F' N' l1; (try k_lt l1); (try k_sweep))
  k_with "k_mem" => (with_reducible kcf_m)
  k_with "k_get" => (with_reducible assumption)
  k_with "call builtin:len" => (k_here; (with_reducible show wpAny _ _ (call (Value.builtin "len") [Value.ref _]) _ _ _); k_dflt (refine' len_arr ?N ?m ?z ?_; (case N => k_asm); (case m => k_mem); (case z => (simp only [Array.size_push, List.size_toArray]; omega))))
  k_with "kcf_m" => (refine via (by assumption) ?_; kcf_m)
  k_with "subscriptTail Name Slice ref ref" => (k_here; (with_reducible show wpAny _ _ (subscriptTail _ _ (Value.ref _) (Value.ref _)) _ _ _); k_dflt (first
  | (refine' tup_head ?F ?N ?m ?h0 ?b ?e ?_ ?s ?t ?z; (case F => k_asm); (case N => k_asm); (case m => k_mem); (case h0 => decide); (case b => first | exact Nat.le_of_ble_eq_true rfl | (simp only [List.length_cons]; omega)); (case e => first | exact tk1 | exact dp1 | exact dp2 | exact rfl); (case s => with_unfolding_all rfl); (case t => kmk_pure); (case z => first | exact Nat.le_of_ble_eq_true rfl | (simp only [List.length_cons]; omega)))
  | (refine' tup_rest ?F ?N ?m ?h0 ?b ?e ?_ ?s ?t ?z; (case F => k_asm); (case N => k_asm); (case m => k_mem); (case h0 => decide); (case b => first | exact Nat.le_of_ble_eq_true rfl | (simp only [List.length_cons]; omega)); (case e => first | exact tk1 | exact dp1 | exact dp2 | exact rfl); (case s => with_unfolding_all rfl); (case t => kmk_pure); (case z => first | exact Nat.le_of_ble_eq_true rfl | (simp only [List.length_cons]; omega)))); intro D' h' F' N' l1; (try k_lt l1); (try k_sweep))
  k_with "subscriptTail" => (k_here; (with_reducible show wpAny _ _ (subscriptTail _ _ (Value.ref _) (Value.int _ _)) _ _ _); k_dflt (first
  | (refine' list_tailL ?N ?m ?a ?b ?x ?_ ?s; (case N => k_asm); (case m => k_mem); (case a => decide); (case b => decide); (case x => first | exact rfl | assumption); (case s => with_unfolding_all rfl))
  | (refine' dict_tail (knd := intKind _ _) ?N ?m ?d ?k ?v ?_ ?s; (case N => k_asm); (case m => k_mem); (case d => with_reducible assumption); (case k => exact intKind_is _ _ _ _); (case v => first | with_reducible assumption | exact rfl); (case s => with_unfolding_all rfl))))
  k_with "subscriptTail" => (k_here; (with_reducible show wpAny _ _ (subscriptTail _ _ (Value.ref _) (Value.str _ _)) _ _ _); k_dflt
  (refine' dict_tail (knd := strKind _ _) ?N ?m ?d ?k ?v ?_ ?s; (case N => k_asm); (case m => k_mem); (case d => with_reducible assumption); (case k => exact strKind_is _ _ _ _); (case v => exact rfl); (case s => with_unfolding_all rfl)))
  k_with "getItem ref str" => (k_here; k_dflt
  (refine' dict_get (knd := strKind _ _) ?N ?m ?d ?k ?v ?_; (case N => k_asm); (case m => k_mem); (case d => with_reducible assumption); (case k => exact strKind_is _ _ _ _); (case v => exact rfl)))
  k_with "compareOp In int ref" => (k_here; k_dflt (refine' fz_in' ?N ?m ?b ?_; (case N => k_asm); (case m => k_mem); (case b => first | assumption | exact rfl)))
  k_with "binaryOp Add ref ref" => (k_here; k_dflt (refine' tup_add ?F ?N ?a ?b ?v ?w ?z ?e ?_; (case F => k_asm); (case N => k_asm); (case a => k_mem); (case b => k_mem); (case v => first | exact List.cons_ne_nil _ _ | assumption); (case w => first | exact List.cons_ne_nil _ _ | assumption); (case z => first | exact Nat.le_of_ble_eq_true rfl | (simp only [List.length_cons, List.length_nil]; omega)); (case e => first | exact ap1 | exact ap2 | exact rfl)); intro D' h' F' N' l1; (try k_lt l1); (try k_sweep))
  k_with "newTuple" => (k_here; k_dflt (refine' kup_newTuple ?F ?N ?_ ?z; (case F => k_asm); (case N => k_asm); (case z => kmk_size)); intro D' h' F' N' l1; (try k_sweep))
  k_with "k_offL" => (first | omega | ((try simp only [List.length_append, List.length_cons, List.length_nil]); omega))
  k_with "subscriptTail" => (k_here; (with_reducible show wpAny _ _ (subscriptTail _ _ (Value.ref _) (Value.int _ _)) _ _ _); k_dflt (refine' tin_sub0 ?F ?X ?N ?T ?_ ?s; (case F => k_asm); (case X => k_asm); (case N => k_asm); (case T => (refine TIn.up (by assumption) ?_; kat_tups)); (case s => with_unfolding_all rfl)); intro t0')
  k_with "subscriptTail" => (k_here; (with_reducible show wpAny _ _ (subscriptTail _ _ (Value.ref _) (Value.int _ _)) _ _ _); k_dflt (refine' tup_item ?N ?m ?a ?b ?x ?_ ?s; (case N => k_asm); (case m => k_mem); (case a => decide); (case b => decide); (case x => exact rfl); (case s => with_unfolding_all rfl)))
  k_with "eval Call" => (k_fold; (try (refine tok_gen ?_; intro tkz)))
  k_with "eval Call Attribute" => (k_fold; (try (refine tok_gen ?_; intro tkz)))
  k_with "eval Tuple" => (k_fold; (try (refine tok_gen ?_; intro tkz)))
  trivial
theorem c_bk_slice {w : World} {pre rest : List (Addr × Obj)} {st lr li e ty : Addr} {te : Str} {tt : Tok} {xs : List Value} {ds0 : List Dat} (S : SIn w rest st lr li) (sub0 : ∀ p ∈ rest, p ∈ pre) (hm : (e, tupO (.str te tt :: .ref ty :: xs)) ∈ rest) (hT : TIn (TL ++ rest) (.ref ty) (.tuple (sd "slice" :: ds0))) :
  Runs w 35 [.ref st, .ref e] pre 6 40 (fun r post => (∃ t, r = .str (ks "slice") t) ∧ post = pre) := by
  obtain ⟨m1, m2, m3, m4, m5, m6, m7, m8, m9, m10, m11, m12, m13, m14, m15, i1, i2, g1, g2, g3, g4, g5, g6, g7, n1, n2, n3, n4, n5, n6, n7, n8, n9, x1, x2, x3, x4, x5⟩ := S
  unfold Runs
  k_fill
  intro p loose mean mg mb dp un gd cn cs a ccd cl outer A₀ base h₀ L m s Q E B F X N T hk hd hu ret
  k_steps
  exact ret _ _ _ _ (by k_asm) (by k_asm) ⟨⟨_, rfl⟩, rfl⟩
theorem c_bk_array {w : World} {pre rest : List (Addr × Obj)} {st lr li e ty : Addr} {te : Str} {tt : Tok} {xs : List Value} {ds0 : List Dat} (S : SIn w rest st lr li) (sub0 : ∀ p ∈ rest, p ∈ pre) (hm : (e, tupO (.str te tt :: .ref ty :: xs)) ∈ rest) (hT : TIn (TL ++ rest) (.ref ty) (.tuple (sd "array" :: ds0))) :
  Runs w 35 [.ref st, .ref e] pre 6 40 (fun r post => (∃ t, r = .str (ks "array") t) ∧ post = pre) := by
  obtain ⟨m1, m2, m3, m4, m5, m6, m7, m8, m9, m10, m11, m12, m13, m14, m15, i1, i2, g1, g2, g3, g4, g5, g6, g7, n1, n2, n3, n4, n5, n6, n7, n8, n9, x1, x2, x3, x4, x5⟩ := S
  unfold Runs
  k_fill
  intro p loose mean mg mb dp un gd cn cs a ccd cl outer A₀ base h₀ L m s Q E B F X N T hk hd hu ret
  k_steps
  exact ret _ _ _ _ (by k_asm) (by k_asm) ⟨⟨_, rfl⟩, rfl⟩
theorem w_C12_0 : True := by
  w_top off
  k_with_none
  k_with "k_all" => (assumption)
  k_with "eval Dict" => (k_here; k_dflt (first
  | (refine' kdn_str ?q ?F ?N ?b ?a ?l ?e ?n ?_; (case q => rfl); (case F => k_asm); (case N => first | k_asm | exact News.nil); (case b => exact Top.nolimit (by k_asm)); (case a => rfl); (case l => rfl); (case e => exact List.cons_ne_nil _ _); (case n => exact Nat.le_of_ble_eq_true rfl))
  | (refine' kdn_int ?q ?F ?N ?b ?a ?l ?e ?n ?_; (case q => rfl); (case F => k_asm); (case N => first | k_asm | exact News.nil); (case b => exact Top.nolimit (by k_asm)); (case a => rfl); (case l => rfl); (case e => exact List.cons_ne_nil _ _); (case n => exact Nat.le_of_ble_eq_true rfl))); intro d' h' o' F' N' l1 lo' hd'; (try k_lt l1))
  k_with "eval Dict nil nil" => (k_here; k_dflt (refine' newDict_K ?k1 ?k2 (TopRead.nolimit (by k_asm)) ?_; (case k1 => k_asm); (case k2 => k_asm); k_whole); intro d' h' o' F' N' l1 lo' hs' fs' hi' fi'; (try k_lt l1); (try k_sweep))
  k_with "ktr_room" => (refine room_of ?_; (try simp +zetaDelta only [depth_under_make, depth_under_kw, depth_in1, depth_deeper]); (try dsimp only [ktrTop]); (first | exact rl1 (by assumption) (by exact rfl) | exact rl2 (by assumption) (by exact rfl) | exact rl3 (by assumption) (by exact rfl) | omega))
  k_with "ktr_enter" => (refine' code_def ?k1 ?k2 ?k3 ?k4 ?k5 ?kA ?kF ?kK ?k6 ?k7 ?k8 ?k9 ?kB ?_ ?c2 ?c3 ?c4 ?c5; (case kA => exact rfl); (case kF => exact rfl); (case kK => first | exact rfl | assumption); (case k1 => k_asm); (case k2 => k_asm); (case k3 => k_asm); (case k4 => k_asm); (case k5 => k_asm); (case k6 => k_is); (case k7 => k_is); (case k8 => ktr_room); (case k9 => first | exact BindsTo.of_eq rfl | exact binds_K (by k_in) rfl (by k_is) rfl rfl rfl); (case c5 => decide); (case kB => exact locs rfl); (case c2 => exact rfl); (case c3 => exact rfl); (case c4 => exact rfl); k_whole; intro g' L' h' FG' F' N' B' X' T'; (try dsimp only); (try k_fold); (try (refine let_enter ?_; intro M1 A1)))
  k_with "call ref" => (k_here; k_dflt (first
  | (refine wpAny_call ?_; ktr_enter)
  | (refine' call_cls0 ?k1 ?k2 ?k3 ?k4 ?k5 ?_; (case k1 => k_asm); (case k2 => k_asm); (case k3 => k_asm); (case k4 => k_is); (case k5 => k_is); k_whole; intro x' d' h' F' N' l1 l2; (try k_lt l1); (try k_lt2 l2); (try k_sweep))
  | (refine' call_cls ?k1 ?k2 ?k3 ?k4 ?k5 ?k6 ?_; (case k1 => k_asm); (case k2 => k_asm); (case k3 => k_asm); (case k4 => k_is); (case k5 => k_is); (case k6 => k_is); k_whole; intro x' d' h' F' N' l1 l2; (try k_lt l1); (try k_lt2 l2); (try k_sweep); ktr_enter)
  | (refine' call_meth ?k1 ?k2 ?_; (case k1 => k_asm); (case k2 => k_mem); k_whole; ktr_enter)))
  k_with "ktr_units" => ((try simp +zetaDelta only [units_in1, units_deeper, Around.mark_units, units_make]); (try dsimp only [ktrTop]); first | exact rl1 (by assumption) (by exact rfl) | exact rl2 (by assumption) (by exact rfl) | exact rl3 (by assumption) (by exact rfl) | omega | ((show _ < (9900 : Nat)); omega))
  k_with "call type:frozenset" => (k_here; k_dflt (refine' fz_call ?F ?N ?m ?d ?z ?_; (case F => k_asm); (case N => k_asm); (case m => k_mem); (case d => k_asm); (case z => k_asm)); intro D' h' tq' led' F' N' l1; (try k_lt l1))
  k_with "compareOp In int ref" => (k_here; k_dflt (refine' fz_in ?N ?m ?_; (case N => k_asm); (case m => k_mem)))
  k_with "call type:list" => (k_here; (with_reducible show wpAny _ _ (call (Value.type "list") [Value.ref _]) _ _ _); k_dflt (refine' list_copyK ?k1 ?k2 ?k3 ?_ ?z; (case k1 => k_asm); (case k2 => k_asm); (case k3 => exact News.isList (by k_asm) (by k_mem)); (case z => first | exact Nat.le_of_ble_eq_true rfl | omega); k_whole); intro D' c' h' F' N' l1; (try k_lt l1); (try k_sweep))
  k_with "k_mem" => (with_reducible kcf_m)
  k_with "k_get" => (with_reducible assumption)
  k_with "call builtin:len" => (k_here; (with_reducible show wpAny _ _ (call (Value.builtin "len") [Value.ref _]) _ _ _); k_dflt (refine' len_arr ?N ?m ?z ?_; (case N => k_asm); (case m => k_mem); (case z => (simp only [Array.size_push, List.size_toArray]; omega))))
  k_with "kcf_m" => (refine via (by assumption) ?_; kcf_m)
  k_with "subscriptTail Name Slice ref ref" => (k_here; (with_reducible show wpAny _ _ (subscriptTail _ _ (Value.ref _) (Value.ref _)) _ _ _); k_dflt (first
  | (refine' tup_head ?F ?N ?m ?h0 ?b ?e ?_ ?s ?t ?z; (case F => k_asm); (case N => k_asm); (case m => k_mem); (case h0 => decide); (case b => first | exact Nat.le_of_ble_eq_true rfl | (simp only [List.length_cons]; omega)); (case e => first | exact tk1 | exact dp1 | exact dp2 | exact rfl); (case s => with_unfolding_all rfl); (case t => kmk_pure); (case z => first | exact Nat.le_of_ble_eq_true rfl | (simp only [List.length_cons]; omega)))
  | (refine' tup_rest ?F ?N ?m ?h0 ?b ?e ?_ ?s ?t ?z; (case F => k_asm); (case N => k_asm); (case m => k_mem); (case h0 => decide); (case b => first | exact Nat.le_of_ble_eq_true rfl | (simp only [List.length_cons]; omega)); (case e => first | exact tk1 | exact dp1 | exact dp2 | exact rfl); (case s => with_unfolding_all rfl); (case t => kmk_pure); (case z => first | exact Nat.le_of_ble_eq_true rfl | (simp only [List.length_cons]; omega)))); intro D' h' F' N' l1; (try k_lt l1); (try k_sweep))
  k_with "subscriptTail" => (k_here; (with_reducible show wpAny _ _ (subscriptTail _ _ (Value.ref _) (Value.int _ _)) _ _ _); k_dflt (first
  | (refine' list_tailL ?N ?m ?a ?b ?x ?_ ?s; (case N => k_asm); (case m => k_mem); (case a => decide); (case b => decide); (case x => first | exact rfl | assumption); (case s => with_unfolding_all rfl))
  | (refine' dict_tail (knd := intKind _ _) ?N ?m ?d ?k ?v ?_ ?s; (case N => k_asm); (case m => k_mem); (case d => with_reducible assumption); (case k => exact intKind_is _ _ _ _); (case v => first | with_reducible assumption | exact rfl); (case s => with_unfolding_all rfl))))
  k_with "subscriptTail" => (k_here; (with_reducible show wpAny _ _ (subscriptTail _ _ (Value.ref _) (Value.str _ _)) _ _ _); k_dflt
  (refine' dict_tail (knd := strKind _ _) ?N ?m ?d ?k ?v ?_ ?s; (case N => k_asm); (case m => k_mem); (case d => with_reducible assumption); (case k => exact strKind_is _ _ _ _); (case v => exact rfl); (case s => with_unfolding_all rfl)))
  k_with "getItem ref str" => (k_here; k_dflt
  (refine' dict_get (knd := strKind _ _) ?N ?m ?d ?k ?v ?_; (case N => k_asm); (case m => k_mem); (case d => with_reducible assumption); (case k => exact strKind_is _ _ _ _); (case v => exact rfl)))
  k_with "compareOp In int ref" => (k_here; k_dflt (refine' fz_in' ?N ?m ?b ?_; (case N => k_asm); (case m => k_mem); (case b => first | assumption | exact rfl)))
  k_with "binaryOp Add ref ref" => (k_here; k_dflt (refine' tup_add ?F ?N ?a ?b ?v ?w ?z ?e ?_; (case F => k_asm); (case N => k_asm); (case a => k_mem); (case b => k_mem); (case v => first | exact List.cons_ne_nil _ _ | assumption); (case w => first | exact List.cons_ne_nil _ _ | assumption); (case z => first | exact Nat.le_of_ble_eq_true rfl | (simp only [List.length_cons, List.length_nil]; omega)); (case e => first | exact ap1 | exact ap2 | exact rfl)); intro D' h' F' N' l1; (try k_lt l1); (try k_sweep))
  k_with "newTuple" => (k_here; k_dflt (refine' kup_newTuple ?F ?N ?_ ?z; (case F => k_asm); (case N => k_asm); (case z => kmk_size)); intro D' h' F' N' l1; (try k_sweep))
  k_with "k_offL" => (first | omega | ((try simp only [List.length_append, List.length_cons, List.length_nil]); omega))
  k_with "subscriptTail" => (k_here; (with_reducible show wpAny _ _ (subscriptTail _ _ (Value.ref _) (Value.int _ _)) _ _ _); k_dflt (refine' tin_sub0 ?F ?X ?N ?T ?_ ?s; (case F => k_asm); (case X => k_asm); (case N => k_asm); (case T => (refine TIn.up (by assumption) ?_; kat_tups)); (case s => with_unfolding_all rfl)); intro t0')
  k_with "subscriptTail" => (k_here; (with_reducible show wpAny _ _ (subscriptTail _ _ (Value.ref _) (Value.int _ _)) _ _ _); k_dflt (refine' tup_item ?N ?m ?a ?b ?x ?_ ?s; (case N => k_asm); (case m => k_mem); (case a => decide); (case b => decide); (case x => exact rfl); (case s => with_unfolding_all rfl)))
  k_with "call ref" => (k_here; (with_reducible show wpAny _ _ (call (Value.ref 174) _) _ _ _); k_dflt (refine' runs_use (c_fresh ?S ?V ?hr ?hx ?h1 ?h2 ?hz ?hy) ?B ?F ?X ?N ?T ?k ?d ?u ?_; (case B => k_asm); (case F => k_asm); (case X => k_asm); (case N => k_asm);(case V => ktu_offI); (case S => (refine SIn.mono ?_ (by assumption); kat_tups)); (case hr => k_mem); (case hx => kqd_all); (case h1 => exact List.cons_ne_nil _ _); (case h2 => exact Nat.le_of_ble_eq_true rfl);(case hz => k_offL); (case hy => k_offL); (case T => k_asm); (case k => exact rfl); (case d => ((try simp +zetaDelta only [depth_under_make, depth_under_kw, depth_in1, depth_deeper]); (try dsimp only [ktrTop]); (first | exact rl1 (by assumption) (by exact rfl) | exact rl2 (by assumption) (by exact rfl) | exact rl3 (by assumption) (by exact rfl) | omega))); (case u => ktr_units); intro r9 post9 h9 tk9 F' N' P9; revert P9; (refine ex1 ?_); intro rest9 P9; revert P9; (refine an3 ?_); intro up9 V9 T9; have sub9 := V9.sub; (try dsimp only); (try k_sweep)))
  k_with "eval Call" => (k_fold; (try (refine tok_gen ?_; intro tkz)))
  k_with "eval Call Attribute" => (k_fold; (try (refine tok_gen ?_; intro tkz)))
  k_with "eval Tuple" => (k_fold; (try (refine tok_gen ?_; intro tkz)))
  trivial
theorem c_keptC {w : World} {rest pre : List (Addr × Obj)} {st lr li : Addr} {n : Nat} {ds : List Dat} {a : Addr} {tv : Value} {ds0 : List Dat} (S : SIn w rest st lr li) (V : Lv lr li n ds rest pre) (hT : TIn (TL ++ rest) (.ref a) (.tuple (sd "const" :: ds0))) :
  Runs w 258 [.ref st, .ref a, tv] pre 8 60 (SPost lr li rest n ds (.tuple (sd "const" :: ds0))) := by
  have S0 := S
  obtain ⟨m1, m2, m3, m4, m5, m6, m7, m8, m9, m10, m11, m12, m13, m14, m15, i1, i2, g1, g2, g3, g4, g5, g6, g7, n1, n2, n3, n4, n5, n6, n7, n8, n9, x1, x2, x3, x4, x5⟩ := S
  have sub0 := V.sub
  unfold Runs
  k_fill
  intro p loose mean mg mb dp un gd cn cs a ccd cl outer A₀ base h₀ L m s Q E B F X N T hk hd hu ret
  k_steps
  refine' ret _ _ _ _ ?F ?N (spost ?V ?hn ?hd ?up ?T)
  case F => k_asm
  case N => k_asm
  case V => ktu_offI
  case hn => first | rfl | k_offL
  case hd => first | rfl | simp
  case up => kat_tups
  case T => kqd_in
theorem c_keptR {w : World} {rest pre : List (Addr × Obj)} {st lr li : Addr} {n : Nat} {ds : List Dat} {a : Addr} {tv : Value} {ds0 : List Dat} (S : SIn w rest st lr li) (V : Lv lr li n ds rest pre) (hz : n ≤ 800) (hy : ds.length ≤ 800) (hT : TIn (TL ++ rest) (.ref a) (.tuple (sd "reg" :: ds0))) :
  Runs w 258 [.ref st, .ref a, tv] pre 8 60 (SPost lr li rest (n + 1) (ds ++ [row1 "move" n (.tuple (sd "reg" :: ds0))]) (reg n)) := by
  have S0 := S
  obtain ⟨m1, m2, m3, m4, m5, m6, m7, m8, m9, m10, m11, m12, m13, m14, m15, i1, i2, g1, g2, g3, g4, g5, g6, g7, n1, n2, n3, n4, n5, n6, n7, n8, n9, x1, x2, x3, x4, x5⟩ := S
  have sub0 := V.sub
  unfold Runs
  k_fill
  intro p loose mean mg mb dp un gd cn cs a ccd cl outer A₀ base h₀ L m s Q E B F X N T hk hd hu ret
  k_steps
  refine' ret _ _ _ _ ?F ?N (spost ?V ?hn ?hd ?up ?T)
  case F => k_asm
  case N => k_asm
  case V => ktu_offI
  case hn => first | rfl | k_offL
  case hd => first | rfl | simp
  case up => kat_tups
  case T => kqd_in
theorem w_C13_0 : True := by
  w_top off
  k_with_none
  k_with "k_all" => (assumption)
  k_with "eval Dict" => (k_here; k_dflt (first
  | (refine' kdn_str ?q ?F ?N ?b ?a ?l ?e ?n ?_; (case q => rfl); (case F => k_asm); (case N => first | k_asm | exact News.nil); (case b => exact Top.nolimit (by k_asm)); (case a => rfl); (case l => rfl); (case e => exact List.cons_ne_nil _ _); (case n => exact Nat.le_of_ble_eq_true rfl))
  | (refine' kdn_int ?q ?F ?N ?b ?a ?l ?e ?n ?_; (case q => rfl); (case F => k_asm); (case N => first | k_asm | exact News.nil); (case b => exact Top.nolimit (by k_asm)); (case a => rfl); (case l => rfl); (case e => exact List.cons_ne_nil _ _); (case n => exact Nat.le_of_ble_eq_true rfl))); intro d' h' o' F' N' l1 lo' hd'; (try k_lt l1))
  k_with "eval Dict nil nil" => (k_here; k_dflt (refine' newDict_K ?k1 ?k2 (TopRead.nolimit (by k_asm)) ?_; (case k1 => k_asm); (case k2 => k_asm); k_whole); intro d' h' o' F' N' l1 lo' hs' fs' hi' fi'; (try k_lt l1); (try k_sweep))
  k_with "ktr_room" => (refine room_of ?_; (try simp +zetaDelta only [depth_under_make, depth_under_kw, depth_in1, depth_deeper]); (try dsimp only [ktrTop]); (first | exact rl1 (by assumption) (by exact rfl) | exact rl2 (by assumption) (by exact rfl) | exact rl3 (by assumption) (by exact rfl) | omega))
  k_with "ktr_enter" => (refine' code_def ?k1 ?k2 ?k3 ?k4 ?k5 ?kA ?kF ?kK ?k6 ?k7 ?k8 ?k9 ?kB ?_ ?c2 ?c3 ?c4 ?c5; (case kA => exact rfl); (case kF => exact rfl); (case kK => first | exact rfl | assumption); (case k1 => k_asm); (case k2 => k_asm); (case k3 => k_asm); (case k4 => k_asm); (case k5 => k_asm); (case k6 => k_is); (case k7 => k_is); (case k8 => ktr_room); (case k9 => first | exact BindsTo.of_eq rfl | exact binds_K (by k_in) rfl (by k_is) rfl rfl rfl); (case c5 => decide); (case kB => exact locs rfl); (case c2 => exact rfl); (case c3 => exact rfl); (case c4 => exact rfl); k_whole; intro g' L' h' FG' F' N' B' X' T'; (try dsimp only); (try k_fold); (try (refine let_enter ?_; intro M1 A1)))
  k_with "call ref" => (k_here; k_dflt (first
  | (refine wpAny_call ?_; ktr_enter)
  | (refine' call_cls0 ?k1 ?k2 ?k3 ?k4 ?k5 ?_; (case k1 => k_asm); (case k2 => k_asm); (case k3 => k_asm); (case k4 => k_is); (case k5 => k_is); k_whole; intro x' d' h' F' N' l1 l2; (try k_lt l1); (try k_lt2 l2); (try k_sweep))
  | (refine' call_cls ?k1 ?k2 ?k3 ?k4 ?k5 ?k6 ?_; (case k1 => k_asm); (case k2 => k_asm); (case k3 => k_asm); (case k4 => k_is); (case k5 => k_is); (case k6 => k_is); k_whole; intro x' d' h' F' N' l1 l2; (try k_lt l1); (try k_lt2 l2); (try k_sweep); ktr_enter)
  | (refine' call_meth ?k1 ?k2 ?_; (case k1 => k_asm); (case k2 => k_mem); k_whole; ktr_enter)))
  k_with "ktr_units" => ((try simp +zetaDelta only [units_in1, units_deeper, Around.mark_units, units_make]); (try dsimp only [ktrTop]); first | exact rl1 (by assumption) (by exact rfl) | exact rl2 (by assumption) (by exact rfl) | exact rl3 (by assumption) (by exact rfl) | omega | ((show _ < (9900 : Nat)); omega))
  k_with "call type:frozenset" => (k_here; k_dflt (refine' fz_call ?F ?N ?m ?d ?z ?_; (case F => k_asm); (case N => k_asm); (case m => k_mem); (case d => k_asm); (case z => k_asm)); intro D' h' tq' led' F' N' l1; (try k_lt l1))
  k_with "compareOp In int ref" => (k_here; k_dflt (refine' fz_in ?N ?m ?_; (case N => k_asm); (case m => k_mem)))
  k_with "call type:list" => (k_here; (with_reducible show wpAny _ _ (call (Value.type "list") [Value.ref _]) _ _ _); k_dflt (refine' list_copyK ?k1 ?k2 ?k3 ?_ ?z; (case k1 => k_asm); (case k2 => k_asm); (case k3 => exact News.isList (by k_asm) (by k_mem)); (case z => first | exact Nat.le_of_ble_eq_true rfl | omega); k_whole); intro D' c' h' F' N' l1; (try k_lt l1); (try k_sweep))
  k_with "k_mem" => (with_reducible kcf_m)
  k_with "k_get" => (with_reducible assumption)
  k_with "call builtin:len" => (k_here; (with_reducible show wpAny _ _ (call (Value.builtin "len") [Value.ref _]) _ _ _); k_dflt (refine' len_arr ?N ?m ?z ?_; (case N => k_asm); (case m => k_mem); (case z => (simp only [Array.size_push, List.size_toArray]; omega))))
  k_with "kcf_m" => (refine via (by assumption) ?_; kcf_m)
  k_with "subscriptTail Name Slice ref ref" => (k_here; (with_reducible show wpAny _ _ (subscriptTail _ _ (Value.ref _) (Value.ref _)) _ _ _); k_dflt (first
  | (refine' tup_head ?F ?N ?m ?h0 ?b ?e ?_ ?s ?t ?z; (case F => k_asm); (case N => k_asm); (case m => k_mem); (case h0 => decide); (case b => first | exact Nat.le_of_ble_eq_true rfl | (simp only [List.length_cons]; omega)); (case e => first | exact tk1 | exact dp1 | exact dp2 | exact rfl); (case s => with_unfolding_all rfl); (case t => kmk_pure); (case z => first | exact Nat.le_of_ble_eq_true rfl | (simp only [List.length_cons]; omega)))
  | (refine' tup_rest ?F ?N ?m ?h0 ?b ?e ?_ ?s ?t ?z; (case F => k_asm); (case N => k_asm); (case m => k_mem); (case h0 => decide); (case b => first | exact Nat.le_of_ble_eq_true rfl | (simp only [List.length_cons]; omega)); (case e => first | exact tk1 | exact dp1 | exact dp2 | exact rfl); (case s => with_unfolding_all rfl); (case t => kmk_pure); (case z => first | exact Nat.le_of_ble_eq_true rfl | (simp only [List.length_cons]; omega)))); intro D' h' F' N' l1; (try k_lt l1); (try k_sweep))
  k_with "subscriptTail" => (k_here; (with_reducible show wpAny _ _ (subscriptTail _ _ (Value.ref _) (Value.int _ _)) _ _ _); k_dflt (first
  | (refine' list_tailL ?N ?m ?a ?b ?x ?_ ?s; (case N => k_asm); (case m => k_mem); (case a => decide); (case b => decide); (case x => first | exact rfl | assumption); (case s => with_unfolding_all rfl))
  | (refine' dict_tail (knd := intKind _ _) ?N ?m ?d ?k ?v ?_ ?s; (case N => k_asm); (case m => k_mem); (case d => with_reducible assumption); (case k => exact intKind_is _ _ _ _); (case v => first | with_reducible assumption | exact rfl); (case s => with_unfolding_all rfl))))
  k_with "subscriptTail" => (k_here; (with_reducible show wpAny _ _ (subscriptTail _ _ (Value.ref _) (Value.str _ _)) _ _ _); k_dflt
  (refine' dict_tail (knd := strKind _ _) ?N ?m ?d ?k ?v ?_ ?s; (case N => k_asm); (case m => k_mem); (case d => with_reducible assumption); (case k => exact strKind_is _ _ _ _); (case v => exact rfl); (case s => with_unfolding_all rfl)))
  k_with "getItem ref str" => (k_here; k_dflt
  (refine' dict_get (knd := strKind _ _) ?N ?m ?d ?k ?v ?_; (case N => k_asm); (case m => k_mem); (case d => with_reducible assumption); (case k => exact strKind_is _ _ _ _); (case v => exact rfl)))
  k_with "compareOp In int ref" => (k_here; k_dflt (refine' fz_in' ?N ?m ?b ?_; (case N => k_asm); (case m => k_mem); (case b => first | assumption | exact rfl)))
  k_with "binaryOp Add ref ref" => (k_here; k_dflt (refine' tup_add ?F ?N ?a ?b ?v ?w ?z ?e ?_; (case F => k_asm); (case N => k_asm); (case a => k_mem); (case b => k_mem); (case v => first | exact List.cons_ne_nil _ _ | assumption); (case w => first | exact List.cons_ne_nil _ _ | assumption); (case z => first | exact Nat.le_of_ble_eq_true rfl | (simp only [List.length_cons, List.length_nil]; omega)); (case e => first | exact ap1 | exact ap2 | exact rfl)); intro D' h' F' N' l1; (try k_lt l1); (try k_sweep))
  k_with "newTuple" => (k_here; k_dflt (refine' kup_newTuple ?F ?N ?_ ?z; (case F => k_asm); (case N => k_asm); (case z => kmk_size)); intro D' h' F' N' l1; (try k_sweep))
  k_with "k_offL" => (first | omega | ((try simp only [List.length_append, List.length_cons, List.length_nil]); omega))
  k_with "subscriptTail" => (k_here; (with_reducible show wpAny _ _ (subscriptTail _ _ (Value.ref _) (Value.int _ _)) _ _ _); k_dflt (refine' tin_sub0 ?F ?X ?N ?T ?_ ?s; (case F => k_asm); (case X => k_asm); (case N => k_asm); (case T => (refine TIn.up (by assumption) ?_; kat_tups)); (case s => with_unfolding_all rfl)); intro t0')
  k_with "subscriptTail" => (k_here; (with_reducible show wpAny _ _ (subscriptTail _ _ (Value.ref _) (Value.int _ _)) _ _ _); k_dflt (refine' tup_item ?N ?m ?a ?b ?x ?_ ?s; (case N => k_asm); (case m => k_mem); (case a => decide); (case b => decide); (case x => exact rfl); (case s => with_unfolding_all rfl)))
  k_with "call ref" => (k_here; (with_reducible show wpAny _ _ (call (Value.ref 244) _) _ _ _); k_dflt (refine' runs_use (c_lvk ?S ?V ?hk) ?B ?F ?X ?N ?T ?k ?d ?u ?_; (case B => k_asm); (case F => k_asm); (case X => k_asm); (case N => k_asm);(case V => ktu_offI); (case S => (refine SIn.mono ?_ (by assumption); kat_tups)); (case hk => first | exact Or.inl rfl | exact Or.inr (Or.inl rfl) | exact Or.inr (Or.inr (Or.inl rfl)) | exact Or.inr (Or.inr (Or.inr rfl)) | assumption); (case T => k_asm); (case k => exact rfl); (case d => ((try simp +zetaDelta only [depth_under_make, depth_under_kw, depth_in1, depth_deeper]); (try dsimp only [ktrTop]); (first | exact rl1 (by assumption) (by exact rfl) | exact rl2 (by assumption) (by exact rfl) | exact rl3 (by assumption) (by exact rfl) | omega))); (case u => ktr_units); intro r9 post9 h9 tk9 F' N' P9; revert P9; (refine ex1 ?_); intro rest9 P9; revert P9; (refine an3 ?_); intro up9 V9 T9; have sub9 := V9.sub; (try dsimp only); (try k_sweep)))
  k_with "eval Call" => (k_fold; (try (refine tok_gen ?_; intro tkz)))
  k_with "eval Call Attribute" => (k_fold; (try (refine tok_gen ?_; intro tkz)))
  k_with "eval Tuple" => (k_fold; (try (refine tok_gen ?_; intro tkz)))
  trivial
theorem c_valL {w : World} {rest pre : List (Addr × Obj)} {st lr li : Addr} {n : Nat} {ds : List Dat} {e : Addr} {tv : Value} {t t' t'' : Tok} {k : Int} (S : SIn w rest st lr li) (V : Lv lr li n ds rest pre) (hm : (e, tupO [sv "local" t, tv, .int 0 t', .int k t'']) ∈ rest) (hk : k = 1 ∨ k = 2 ∨ k = 3 ∨ k = 4) :
  Runs w 272 [.ref st, .ref e] pre 16 120 (SPost lr li rest n ds (.tuple [sd "reg", .int k])) := by
  have S0 := S
  obtain ⟨m1, m2, m3, m4, m5, m6, m7, m8, m9, m10, m11, m12, m13, m14, m15, i1, i2, g1, g2, g3, g4, g5, g6, g7, n1, n2, n3, n4, n5, n6, n7, n8, n9, x1, x2, x3, x4, x5⟩ := S
  have sub0 := V.sub
  unfold Runs
  k_fill
  intro p loose mean mg mb dp un gd cn cs a ccd cl outer A₀ base h₀ L m s Q E B F X N T hk hd hu ret
  k_steps
  refine' ret _ _ _ _ ?F ?N (spost ?V ?hn ?hd ?up ?T)
  case F => k_asm
  case N => k_asm
  case V => ktu_offI
  case hn => first | rfl | k_offL
  case hd => first | rfl | simp
  case up => kat_tups
  case T => kqd_in
theorem c_valC {w : World} {rest pre : List (Addr × Obj)} {st lr li : Addr} {n : Nat} {ds : List Dat} {e : Addr} {tv xv : Value} {t t' : Tok} {dt dx : Dat} (S : SIn w rest st lr li) (V : Lv lr li n ds rest pre) (hm : (e, tupO [sv "const" t, tv, .int 0 t', xv]) ∈ rest) (hT : TIn (TL ++ rest) tv dt) (hX : TIn (TL ++ rest) xv dx) :
  Runs w 272 [.ref st, .ref e] pre 16 120 (SPost lr li rest n ds (.tuple [sd "const", dt, dx])) := by
  have S0 := S
  obtain ⟨m1, m2, m3, m4, m5, m6, m7, m8, m9, m10, m11, m12, m13, m14, m15, i1, i2, g1, g2, g3, g4, g5, g6, g7, n1, n2, n3, n4, n5, n6, n7, n8, n9, x1, x2, x3, x4, x5⟩ := S
  have sub0 := V.sub
  unfold Runs
  k_fill
  intro p loose mean mg mb dp un gd cn cs a ccd cl outer A₀ base h₀ L m s Q E B F X N T hk hd hu ret
  k_steps
  refine' ret _ _ _ _ ?F ?N (spost ?V ?hn ?hd ?up ?T)
  case F => k_asm
  case N => k_asm
  case V => ktu_offI
  case hn => first | rfl | k_offL
  case hd => first | rfl | simp
  case up => kat_tups
  case T => kqd_in
theorem TyIn.isRef {led : List (Addr × Obj)} {v : Value} {τ : Ty} : TyIn led v τ → ∃ a, v = .ref a
  | .int => ⟨_, rfl⟩ | .pair => ⟨_, rfl⟩ | .row => ⟨_, rfl⟩ | .slice => ⟨_, rfl⟩ | .arr _ => ⟨_, rfl⟩
theorem PlIn.head {led : List (Addr × Obj)} {u : Value} {p : Pl} (h : PlIn led u p) : ∃ a te tt ty xs, u = .ref a ∧ (a, tupO (.str te tt :: .ref ty :: xs)) ∈ led ∧ TyIn led (.ref ty) p.ty := by
  induction h with
  | v0 h t => obtain ⟨ty, rfl⟩ := t.isRef; exact ⟨_, _, _, _, _, rfl, h, t⟩
  | w4 h t => obtain ⟨ty, rfl⟩ := t.isRef; exact ⟨_, _, _, _, _, rfl, h, t⟩
  | glob h t => obtain ⟨ty, rfl⟩ := t.isRef; exact ⟨_, _, _, _, _, rfl, h, t⟩
  | dc h t => obtain ⟨ty, rfl⟩ := t.isRef; exact ⟨_, _, _, _, _, rfl, h, t⟩
  | dl h t => obtain ⟨ty, rfl⟩ := t.isRef; exact ⟨_, _, _, _, _, rfl, h, t⟩
  | sl h t => obtain ⟨ty, rfl⟩ := t.isRef; exact ⟨_, _, _, _, _, rfl, h, t⟩
  | fld h t => obtain ⟨ty, rfl⟩ := t.isRef; exact ⟨_, _, _, _, _, rfl, h, t⟩
  | idx h t => obtain ⟨ty, rfl⟩ := t.isRef; exact ⟨_, _, _, _, _, rfl, h, t⟩
theorem arr_tin {led : List (Addr × Obj)} {v : Value} {τ : Ty} (h : TyIn led v τ) (ha : τ.isArr = true) : ∃ ds0, TIn (TL ++ led) v (.tuple (sd "array" :: ds0)) := by
  cases τ <;> first | exact absurd ha (by decide) | exact ⟨_, h.tin⟩
def InMemC (w : World) (st : Addr) (rest : List (Addr × Obj)) (v : Value) (p : Pl) : Prop := ∀ pre, (∀ x ∈ rest, x ∈ pre) → Runs w 42 [.ref st, v] pre (10 + 10 * p.size) (100 + 100 * p.size) (fun r post => r = .bool p.kept ∧ post = pre)
theorem inmem_use {w : World} {st : Addr} {rest pre : List (Addr × Obj)} {v : Value} {p : Pl} (h : InMemC w st rest v p) (hs : ∀ x ∈ rest, x ∈ pre) : Runs w 42 [.ref st, v] pre (10 + 10 * p.size) (100 + 100 * p.size) (fun r post => r = .bool p.kept ∧ post = pre) := h _ hs
theorem w_C14_0 : True := by
  w_top off
  k_with_none
  k_with "k_all" => (assumption)
  k_with "eval Dict" => (k_here; k_dflt (first
  | (refine' kdn_str ?q ?F ?N ?b ?a ?l ?e ?n ?_; (case q => rfl); (case F => k_asm); (case N => first | k_asm | exact News.nil); (case b => exact Top.nolimit (by k_asm)); (case a => rfl); (case l => rfl); (case e => exact List.cons_ne_nil _ _); (case n => exact Nat.le_of_ble_eq_true rfl))
  | (refine' kdn_int ?q ?F ?N ?b ?a ?l ?e ?n ?_; (case q => rfl); (case F => k_asm); (case N => first | k_asm | exact News.nil); (case b => exact Top.nolimit (by k_asm)); (case a => rfl); (case l => rfl); (case e => exact List.cons_ne_nil _ _); (case n => exact Nat.le_of_ble_eq_true rfl))); intro d' h' o' F' N' l1 lo' hd'; (try k_lt l1))
  k_with "eval Dict nil nil" => (k_here; k_dflt (refine' newDict_K ?k1 ?k2 (TopRead.nolimit (by k_asm)) ?_; (case k1 => k_asm); (case k2 => k_asm); k_whole); intro d' h' o' F' N' l1 lo' hs' fs' hi' fi'; (try k_lt l1); (try k_sweep))
  k_with "ktr_room" => (refine room_of ?_; (try simp +zetaDelta only [depth_under_make, depth_under_kw, depth_in1, depth_deeper]); (try dsimp only [ktrTop]); (first | exact rl1 (by assumption) (by exact rfl) | exact rl2 (by assumption) (by exact rfl) | exact rl3 (by assumption) (by exact rfl) | omega))
  k_with "ktr_enter" => (refine' code_def ?k1 ?k2 ?k3 ?k4 ?k5 ?kA ?kF ?kK ?k6 ?k7 ?k8 ?k9 ?kB ?_ ?c2 ?c3 ?c4 ?c5; (case kA => exact rfl); (case kF => exact rfl); (case kK => first | exact rfl | assumption); (case k1 => k_asm); (case k2 => k_asm); (case k3 => k_asm); (case k4 => k_asm); (case k5 => k_asm); (case k6 => k_is); (case k7 => k_is); (case k8 => ktr_room); (case k9 => first | exact BindsTo.of_eq rfl | exact binds_K (by k_in) rfl (by k_is) rfl rfl rfl); (case c5 => decide); (case kB => exact locs rfl); (case c2 => exact rfl); (case c3 => exact rfl); (case c4 => exact rfl); k_whole; intro g' L' h' FG' F' N' B' X' T'; (try dsimp only); (try k_fold); (try (refine let_enter ?_; intro M1 A1)))
  k_with "call ref" => (k_here; k_dflt (first
  | (refine wpAny_call ?_; ktr_enter)
  | (refine' call_cls0 ?k1 ?k2 ?k3 ?k4 ?k5 ?_; (case k1 => k_asm); (case k2 => k_asm); (case k3 => k_asm); (case k4 => k_is); (case k5 => k_is); k_whole; intro x' d' h' F' N' l1 l2; (try k_lt l1); (try k_lt2 l2); (try k_sweep))
  | (refine' call_cls ?k1 ?k2 ?k3 ?k4 ?k5 ?k6 ?_; (case k1 => k_asm); (case k2 => k_asm); (case k3 => k_asm); (case k4 => k_is); (case k5 => k_is); (case k6 => k_is); k_whole; intro x' d' h' F' N' l1 l2; (try k_lt l1); (try k_lt2 l2); (try k_sweep); ktr_enter)
  | (refine' call_meth ?k1 ?k2 ?_; (case k1 => k_asm); (case k2 => k_mem); k_whole; ktr_enter)))
  k_with "ktr_units" => ((try simp +zetaDelta only [units_in1, units_deeper, Around.mark_units, units_make]); (try dsimp only [ktrTop]); first | exact rl1 (by assumption) (by exact rfl) | exact rl2 (by assumption) (by exact rfl) | exact rl3 (by assumption) (by exact rfl) | omega | ((show _ < (9900 : Nat)); omega))
  k_with "call type:frozenset" => (k_here; k_dflt (refine' fz_call ?F ?N ?m ?d ?z ?_; (case F => k_asm); (case N => k_asm); (case m => k_mem); (case d => k_asm); (case z => k_asm)); intro D' h' tq' led' F' N' l1; (try k_lt l1))
  k_with "compareOp In int ref" => (k_here; k_dflt (refine' fz_in ?N ?m ?_; (case N => k_asm); (case m => k_mem)))
  k_with "call type:list" => (k_here; (with_reducible show wpAny _ _ (call (Value.type "list") [Value.ref _]) _ _ _); k_dflt (refine' list_copyK ?k1 ?k2 ?k3 ?_ ?z; (case k1 => k_asm); (case k2 => k_asm); (case k3 => exact News.isList (by k_asm) (by k_mem)); (case z => first | exact Nat.le_of_ble_eq_true rfl | omega); k_whole); intro D' c' h' F' N' l1; (try k_lt l1); (try k_sweep))
  k_with "k_mem" => (with_reducible kcf_m)
  k_with "k_get" => (with_reducible assumption)
  k_with "call builtin:len" => (k_here; (with_reducible show wpAny _ _ (call (Value.builtin "len") [Value.ref _]) _ _ _); k_dflt (refine' len_arr ?N ?m ?z ?_; (case N => k_asm); (case m => k_mem); (case z => (simp only [Array.size_push, List.size_toArray]; omega))))
  k_with "kcf_m" => (refine via (by assumption) ?_; kcf_m)
  k_with "subscriptTail Name Slice ref ref" => (k_here; (with_reducible show wpAny _ _ (subscriptTail _ _ (Value.ref _) (Value.ref _)) _ _ _); k_dflt (first
  | (refine' tup_head ?F ?N ?m ?h0 ?b ?e ?_ ?s ?t ?z; (case F => k_asm); (case N => k_asm); (case m => k_mem); (case h0 => decide); (case b => first | exact Nat.le_of_ble_eq_true rfl | (simp only [List.length_cons]; omega)); (case e => first | exact tk1 | exact dp1 | exact dp2 | exact rfl); (case s => with_unfolding_all rfl); (case t => kmk_pure); (case z => first | exact Nat.le_of_ble_eq_true rfl | (simp only [List.length_cons]; omega)))
  | (refine' tup_rest ?F ?N ?m ?h0 ?b ?e ?_ ?s ?t ?z; (case F => k_asm); (case N => k_asm); (case m => k_mem); (case h0 => decide); (case b => first | exact Nat.le_of_ble_eq_true rfl | (simp only [List.length_cons]; omega)); (case e => first | exact tk1 | exact dp1 | exact dp2 | exact rfl); (case s => with_unfolding_all rfl); (case t => kmk_pure); (case z => first | exact Nat.le_of_ble_eq_true rfl | (simp only [List.length_cons]; omega)))); intro D' h' F' N' l1; (try k_lt l1); (try k_sweep))
  k_with "subscriptTail" => (k_here; (with_reducible show wpAny _ _ (subscriptTail _ _ (Value.ref _) (Value.int _ _)) _ _ _); k_dflt (first
  | (refine' list_tailL ?N ?m ?a ?b ?x ?_ ?s; (case N => k_asm); (case m => k_mem); (case a => decide); (case b => decide); (case x => first | exact rfl | assumption); (case s => with_unfolding_all rfl))
  | (refine' dict_tail (knd := intKind _ _) ?N ?m ?d ?k ?v ?_ ?s; (case N => k_asm); (case m => k_mem); (case d => with_reducible assumption); (case k => exact intKind_is _ _ _ _); (case v => first | with_reducible assumption | exact rfl); (case s => with_unfolding_all rfl))))
  k_with "subscriptTail" => (k_here; (with_reducible show wpAny _ _ (subscriptTail _ _ (Value.ref _) (Value.str _ _)) _ _ _); k_dflt
  (refine' dict_tail (knd := strKind _ _) ?N ?m ?d ?k ?v ?_ ?s; (case N => k_asm); (case m => k_mem); (case d => with_reducible assumption); (case k => exact strKind_is _ _ _ _); (case v => exact rfl); (case s => with_unfolding_all rfl)))
  k_with "getItem ref str" => (k_here; k_dflt
  (refine' dict_get (knd := strKind _ _) ?N ?m ?d ?k ?v ?_; (case N => k_asm); (case m => k_mem); (case d => with_reducible assumption); (case k => exact strKind_is _ _ _ _); (case v => exact rfl)))
  k_with "compareOp In int ref" => (k_here; k_dflt (refine' fz_in' ?N ?m ?b ?_; (case N => k_asm); (case m => k_mem); (case b => first | assumption | exact rfl)))
  k_with "binaryOp Add ref ref" => (k_here; k_dflt (refine' tup_add ?F ?N ?a ?b ?v ?w ?z ?e ?_; (case F => k_asm); (case N => k_asm); (case a => k_mem); (case b => k_mem); (case v => first | exact List.cons_ne_nil _ _ | assumption); (case w => first | exact List.cons_ne_nil _ _ | assumption); (case z => first | exact Nat.le_of_ble_eq_true rfl | (simp only [List.length_cons, List.length_nil]; omega)); (case e => first | exact ap1 | exact ap2 | exact rfl)); intro D' h' F' N' l1; (try k_lt l1); (try k_sweep))
  k_with "newTuple" => (k_here; k_dflt (refine' kup_newTuple ?F ?N ?_ ?z; (case F => k_asm); (case N => k_asm); (case z => kmk_size)); intro D' h' F' N' l1; (try k_sweep))
  k_with "k_offL" => (first | omega | ((try simp only [List.length_append, List.length_cons, List.length_nil]); omega))
  k_with "subscriptTail" => (k_here; (with_reducible show wpAny _ _ (subscriptTail _ _ (Value.ref _) (Value.int 0 _)) _ _ _); k_dflt (refine' tin_sub0 ?F ?X ?N ?T ?_ ?s; (case F => k_asm); (case X => k_asm); (case N => k_asm); (case T => (refine TIn.up (by assumption) ?_; kat_tups)); (case s => with_unfolding_all rfl)); intro t0')
  k_with "subscriptTail" => (k_here; (with_reducible show wpAny _ _ (subscriptTail _ _ (Value.ref _) (Value.int _ _)) _ _ _); k_dflt (refine' tup_item ?N ?m ?a ?b ?x ?_ ?s; (case N => k_asm); (case m => k_mem); (case a => decide); (case b => decide); (case x => exact rfl); (case s => with_unfolding_all rfl)))
  k_with "call ref" => (k_here; (with_reducible show wpAny _ _ (call (Value.ref 42) _) _ _ _); k_dflt (refine' runs_use (inmem_use ?h ?sub) ?B ?F ?X ?N ?T ?k ?d ?u ?_; (case B => k_asm); (case F => k_asm); (case X => k_asm); (case N => k_asm);(case h => assumption); (case sub => kat_tups); (case T => k_asm); (case k => exact rfl); (case d => ((try simp +zetaDelta only [depth_under_make, depth_under_kw, depth_in1, depth_deeper]); (try dsimp only [ktrTop]); (first | exact rl1 (by assumption) (by exact rfl) | exact rl2 (by assumption) (by exact rfl) | exact rl3 (by assumption) (by exact rfl) | omega))); (case u => ktr_units); intro r9 post9 h9 tk9 F' N' P9; revert P9; (refine an2 ?_); intro e9 e8; subst e9; (replace N' := newsEq N' e8); (first | clear e8 post9 | subst e8); (try dsimp only); (try k_sweep)))
  k_with "eval Call" => (k_fold; (try (refine tok_gen ?_; intro tkz)))
  k_with "eval Call Attribute" => (k_fold; (try (refine tok_gen ?_; intro tkz)))
  k_with "eval Tuple" => (k_fold; (try (refine tok_gen ?_; intro tkz)))
  trivial
theorem im_v0 {w : World} {rest : List (Addr × Obj)} {st lr li e : Addr} (S : SIn w rest st lr li) {t t' t'' : Tok} {v : Value} {τ : Ty} (hm : (e, tupO [sv "local" t, v, .int 0 t', .int 0 t'']) ∈ rest) : InMemC w st rest (.ref e) (.v0 τ) := by
  intro pre sub0
  have S0 := S
  obtain ⟨m1, m2, m3, m4, m5, m6, m7, m8, m9, m10, m11, m12, m13, m14, m15, i1, i2, g1, g2, g3, g4, g5, g6, g7, n1, n2, n3, n4, n5, n6, n7, n8, n9, x1, x2, x3, x4, x5⟩ := S
  unfold Runs
  k_fill
  intro p loose mean mg mb dp un gd cn cs a ccd cl outer A₀ base h₀ L m s Q E B F X N T hk hd hu ret
  simp only [Pl.size] at hd hu
  k_steps
  refine' ret _ _ _ _ ?F (News.sub ?N ?s) ⟨rfl, rfl⟩
  case F => k_asm
  case N => k_asm
  case s => kat_tups
theorem im_w4 {w : World} {rest : List (Addr × Obj)} {st lr li e : Addr} (S : SIn w rest st lr li) {t t' t'' : Tok} {v : Value} {τ : Ty} (hm : (e, tupO [sv "local" t, v, .int 0 t', .int 4 t'']) ∈ rest) : InMemC w st rest (.ref e) (.w4 τ) := by
  intro pre sub0
  have S0 := S
  obtain ⟨m1, m2, m3, m4, m5, m6, m7, m8, m9, m10, m11, m12, m13, m14, m15, i1, i2, g1, g2, g3, g4, g5, g6, g7, n1, n2, n3, n4, n5, n6, n7, n8, n9, x1, x2, x3, x4, x5⟩ := S
  unfold Runs
  k_fill
  intro p loose mean mg mb dp un gd cn cs a ccd cl outer A₀ base h₀ L m s Q E B F X N T hk hd hu ret
  simp only [Pl.size] at hd hu
  k_steps
  refine' ret _ _ _ _ ?F (News.sub ?N ?s) ⟨rfl, rfl⟩
  case F => k_asm
  case N => k_asm
  case s => kat_tups
theorem im_glob {w : World} {rest : List (Addr × Obj)} {st lr li e : Addr} (S : SIn w rest st lr li) {t : Tok} {xs : List Value} {τ : Ty} (hm : (e, tupO (sv "global" t :: xs)) ∈ rest) : InMemC w st rest (.ref e) (.glob τ) := by
  intro pre sub0
  have S0 := S
  obtain ⟨m1, m2, m3, m4, m5, m6, m7, m8, m9, m10, m11, m12, m13, m14, m15, i1, i2, g1, g2, g3, g4, g5, g6, g7, n1, n2, n3, n4, n5, n6, n7, n8, n9, x1, x2, x3, x4, x5⟩ := S
  unfold Runs
  k_fill
  intro p loose mean mg mb dp un gd cn cs a ccd cl outer A₀ base h₀ L m s Q E B F X N T hk hd hu ret
  simp only [Pl.size] at hd hu
  k_steps
  refine' ret _ _ _ _ ?F (News.sub ?N ?s) ⟨rfl, rfl⟩
  case F => k_asm
  case N => k_asm
  case s => kat_tups
theorem im_dc {w : World} {rest : List (Addr × Obj)} {st lr li e : Addr} (S : SIn w rest st lr li) {t : Tok} {xs : List Value} {τ : Ty} (hm : (e, tupO (sv "deref" t :: xs)) ∈ rest) : InMemC w st rest (.ref e) (.dc τ) := by
  intro pre sub0
  have S0 := S
  obtain ⟨m1, m2, m3, m4, m5, m6, m7, m8, m9, m10, m11, m12, m13, m14, m15, i1, i2, g1, g2, g3, g4, g5, g6, g7, n1, n2, n3, n4, n5, n6, n7, n8, n9, x1, x2, x3, x4, x5⟩ := S
  unfold Runs
  k_fill
  intro p loose mean mg mb dp un gd cn cs a ccd cl outer A₀ base h₀ L m s Q E B F X N T hk hd hu ret
  simp only [Pl.size] at hd hu
  k_steps
  refine' ret _ _ _ _ ?F (News.sub ?N ?s) ⟨rfl, rfl⟩
  case F => k_asm
  case N => k_asm
  case s => kat_tups
theorem im_fld {w : World} {rest : List (Addr × Obj)} {st lr li e : Addr} (S : SIn w rest st lr li) {t t' t'' : Tok} {v u : Value} {τ : Ty} {p : Pl} {f : Int} (hm : (e, tupO [sv "field" t, v, .int 0 t', u, .int f t'']) ∈ rest) (IH : InMemC w st rest u p) : InMemC w st rest (.ref e) (.fld τ p f) := by
  intro pre sub0
  have S0 := S
  obtain ⟨m1, m2, m3, m4, m5, m6, m7, m8, m9, m10, m11, m12, m13, m14, m15, i1, i2, g1, g2, g3, g4, g5, g6, g7, n1, n2, n3, n4, n5, n6, n7, n8, n9, x1, x2, x3, x4, x5⟩ := S
  unfold Runs
  k_fill
  intro p loose mean mg mb dp un gd cn cs a ccd cl outer A₀ base h₀ L m s Q E B F X N T hk hd hu ret
  simp only [Pl.size] at hd hu
  k_steps
  refine' ret _ _ _ _ ?F (News.sub ?N ?s) ⟨rfl, rfl⟩
  case F => k_asm
  case N => k_asm
  case s => kat_tups
theorem w_C15_0 : True := by
  w_top off
  k_with_none
  k_with "k_all" => (assumption)
  k_with "eval Dict" => (k_here; k_dflt (first
  | (refine' kdn_str ?q ?F ?N ?b ?a ?l ?e ?n ?_; (case q => rfl); (case F => k_asm); (case N => first | k_asm | exact News.nil); (case b => exact Top.nolimit (by k_asm)); (case a => rfl); (case l => rfl); (case e => exact List.cons_ne_nil _ _); (case n => exact Nat.le_of_ble_eq_true rfl))
  | (refine' kdn_int ?q ?F ?N ?b ?a ?l ?e ?n ?_; (case q => rfl); (case F => k_asm); (case N => first | k_asm | exact News.nil); (case b => exact Top.nolimit (by k_asm)); (case a => rfl); (case l => rfl); (case e => exact List.cons_ne_nil _ _); (case n => exact Nat.le_of_ble_eq_true rfl))); intro d' h' o' F' N' l1 lo' hd'; (try k_lt l1))
  k_with "eval Dict nil nil" => (k_here; k_dflt (refine' newDict_K ?k1 ?k2 (TopRead.nolimit (by k_asm)) ?_; (case k1 => k_asm); (case k2 => k_asm); k_whole); intro d' h' o' F' N' l1 lo' hs' fs' hi' fi'; (try k_lt l1); (try k_sweep))
  k_with "ktr_room" => (refine room_of ?_; (try simp +zetaDelta only [depth_under_make, depth_under_kw, depth_in1, depth_deeper]); (try dsimp only [ktrTop]); (first | exact rl1 (by assumption) (by exact rfl) | exact rl2 (by assumption) (by exact rfl) | exact rl3 (by assumption) (by exact rfl) | omega))
  k_with "ktr_enter" => (refine' code_def ?k1 ?k2 ?k3 ?k4 ?k5 ?kA ?kF ?kK ?k6 ?k7 ?k8 ?k9 ?kB ?_ ?c2 ?c3 ?c4 ?c5; (case kA => exact rfl); (case kF => exact rfl); (case kK => first | exact rfl | assumption); (case k1 => k_asm); (case k2 => k_asm); (case k3 => k_asm); (case k4 => k_asm); (case k5 => k_asm); (case k6 => k_is); (case k7 => k_is); (case k8 => ktr_room); (case k9 => first | exact BindsTo.of_eq rfl | exact binds_K (by k_in) rfl (by k_is) rfl rfl rfl); (case c5 => decide); (case kB => exact locs rfl); (case c2 => exact rfl); (case c3 => exact rfl); (case c4 => exact rfl); k_whole; intro g' L' h' FG' F' N' B' X' T'; (try dsimp only); (try k_fold); (try (refine let_enter ?_; intro M1 A1)))
  k_with "call ref" => (k_here; k_dflt (first
  | (refine wpAny_call ?_; ktr_enter)
  | (refine' call_cls0 ?k1 ?k2 ?k3 ?k4 ?k5 ?_; (case k1 => k_asm); (case k2 => k_asm); (case k3 => k_asm); (case k4 => k_is); (case k5 => k_is); k_whole; intro x' d' h' F' N' l1 l2; (try k_lt l1); (try k_lt2 l2); (try k_sweep))
  | (refine' call_cls ?k1 ?k2 ?k3 ?k4 ?k5 ?k6 ?_; (case k1 => k_asm); (case k2 => k_asm); (case k3 => k_asm); (case k4 => k_is); (case k5 => k_is); (case k6 => k_is); k_whole; intro x' d' h' F' N' l1 l2; (try k_lt l1); (try k_lt2 l2); (try k_sweep); ktr_enter)
  | (refine' call_meth ?k1 ?k2 ?_; (case k1 => k_asm); (case k2 => k_mem); k_whole; ktr_enter)))
  k_with "ktr_units" => ((try simp +zetaDelta only [units_in1, units_deeper, Around.mark_units, units_make]); (try dsimp only [ktrTop]); first | exact rl1 (by assumption) (by exact rfl) | exact rl2 (by assumption) (by exact rfl) | exact rl3 (by assumption) (by exact rfl) | omega | ((show _ < (9900 : Nat)); omega))
  k_with "call type:frozenset" => (k_here; k_dflt (refine' fz_call ?F ?N ?m ?d ?z ?_; (case F => k_asm); (case N => k_asm); (case m => k_mem); (case d => k_asm); (case z => k_asm)); intro D' h' tq' led' F' N' l1; (try k_lt l1))
  k_with "compareOp In int ref" => (k_here; k_dflt (refine' fz_in ?N ?m ?_; (case N => k_asm); (case m => k_mem)))
  k_with "call type:list" => (k_here; (with_reducible show wpAny _ _ (call (Value.type "list") [Value.ref _]) _ _ _); k_dflt (refine' list_copyK ?k1 ?k2 ?k3 ?_ ?z; (case k1 => k_asm); (case k2 => k_asm); (case k3 => exact News.isList (by k_asm) (by k_mem)); (case z => first | exact Nat.le_of_ble_eq_true rfl | omega); k_whole); intro D' c' h' F' N' l1; (try k_lt l1); (try k_sweep))
  k_with "k_mem" => (with_reducible kcf_m)
  k_with "k_get" => (with_reducible assumption)
  k_with "call builtin:len" => (k_here; (with_reducible show wpAny _ _ (call (Value.builtin "len") [Value.ref _]) _ _ _); k_dflt (refine' len_arr ?N ?m ?z ?_; (case N => k_asm); (case m => k_mem); (case z => (simp only [Array.size_push, List.size_toArray]; omega))))
  k_with "kcf_m" => (refine via (by assumption) ?_; kcf_m)
  k_with "subscriptTail Name Slice ref ref" => (k_here; (with_reducible show wpAny _ _ (subscriptTail _ _ (Value.ref _) (Value.ref _)) _ _ _); k_dflt (first
  | (refine' tup_head ?F ?N ?m ?h0 ?b ?e ?_ ?s ?t ?z; (case F => k_asm); (case N => k_asm); (case m => k_mem); (case h0 => decide); (case b => first | exact Nat.le_of_ble_eq_true rfl | (simp only [List.length_cons]; omega)); (case e => first | exact tk1 | exact dp1 | exact dp2 | exact rfl); (case s => with_unfolding_all rfl); (case t => kmk_pure); (case z => first | exact Nat.le_of_ble_eq_true rfl | (simp only [List.length_cons]; omega)))
  | (refine' tup_rest ?F ?N ?m ?h0 ?b ?e ?_ ?s ?t ?z; (case F => k_asm); (case N => k_asm); (case m => k_mem); (case h0 => decide); (case b => first | exact Nat.le_of_ble_eq_true rfl | (simp only [List.length_cons]; omega)); (case e => first | exact tk1 | exact dp1 | exact dp2 | exact rfl); (case s => with_unfolding_all rfl); (case t => kmk_pure); (case z => first | exact Nat.le_of_ble_eq_true rfl | (simp only [List.length_cons]; omega)))); intro D' h' F' N' l1; (try k_lt l1); (try k_sweep))
  k_with "subscriptTail" => (k_here; (with_reducible show wpAny _ _ (subscriptTail _ _ (Value.ref _) (Value.int _ _)) _ _ _); k_dflt (first
  | (refine' list_tailL ?N ?m ?a ?b ?x ?_ ?s; (case N => k_asm); (case m => k_mem); (case a => decide); (case b => decide); (case x => first | exact rfl | assumption); (case s => with_unfolding_all rfl))
  | (refine' dict_tail (knd := intKind _ _) ?N ?m ?d ?k ?v ?_ ?s; (case N => k_asm); (case m => k_mem); (case d => with_reducible assumption); (case k => exact intKind_is _ _ _ _); (case v => first | with_reducible assumption | exact rfl); (case s => with_unfolding_all rfl))))
  k_with "subscriptTail" => (k_here; (with_reducible show wpAny _ _ (subscriptTail _ _ (Value.ref _) (Value.str _ _)) _ _ _); k_dflt
  (refine' dict_tail (knd := strKind _ _) ?N ?m ?d ?k ?v ?_ ?s; (case N => k_asm); (case m => k_mem); (case d => with_reducible assumption); (case k => exact strKind_is _ _ _ _); (case v => exact rfl); (case s => with_unfolding_all rfl)))
  k_with "getItem ref str" => (k_here; k_dflt
  (refine' dict_get (knd := strKind _ _) ?N ?m ?d ?k ?v ?_; (case N => k_asm); (case m => k_mem); (case d => with_reducible assumption); (case k => exact strKind_is _ _ _ _); (case v => exact rfl)))
  k_with "compareOp In int ref" => (k_here; k_dflt (refine' fz_in' ?N ?m ?b ?_; (case N => k_asm); (case m => k_mem); (case b => first | assumption | exact rfl)))
  k_with "binaryOp Add ref ref" => (k_here; k_dflt (refine' tup_add ?F ?N ?a ?b ?v ?w ?z ?e ?_; (case F => k_asm); (case N => k_asm); (case a => k_mem); (case b => k_mem); (case v => first | exact List.cons_ne_nil _ _ | assumption); (case w => first | exact List.cons_ne_nil _ _ | assumption); (case z => first | exact Nat.le_of_ble_eq_true rfl | (simp only [List.length_cons, List.length_nil]; omega)); (case e => first | exact ap1 | exact ap2 | exact rfl)); intro D' h' F' N' l1; (try k_lt l1); (try k_sweep))
  k_with "newTuple" => (k_here; k_dflt (refine' kup_newTuple ?F ?N ?_ ?z; (case F => k_asm); (case N => k_asm); (case z => kmk_size)); intro D' h' F' N' l1; (try k_sweep))
  k_with "k_offL" => (first | omega | ((try simp only [List.length_append, List.length_cons, List.length_nil]); omega))
  k_with "subscriptTail" => (k_here; (with_reducible show wpAny _ _ (subscriptTail _ _ (Value.ref _) (Value.int 0 _)) _ _ _); k_dflt (refine' tin_sub0 ?F ?X ?N ?T ?_ ?s; (case F => k_asm); (case X => k_asm); (case N => k_asm); (case T => (refine TIn.up (by assumption) ?_; kat_tups)); (case s => with_unfolding_all rfl)); intro t0')
  k_with "subscriptTail" => (k_here; (with_reducible show wpAny _ _ (subscriptTail _ _ (Value.ref _) (Value.int _ _)) _ _ _); k_dflt (refine' tup_item ?N ?m ?a ?b ?x ?_ ?s; (case N => k_asm); (case m => k_mem); (case a => decide); (case b => decide); (case x => exact rfl); (case s => with_unfolding_all rfl)))
  k_with "call ref" => (k_here; (with_reducible show wpAny _ _ (call (Value.ref 42) _) _ _ _); k_dflt (refine' runs_use (inmem_use ?h ?sub) ?B ?F ?X ?N ?T ?k ?d ?u ?_; (case B => k_asm); (case F => k_asm); (case X => k_asm); (case N => k_asm);(case h => assumption); (case sub => kat_tups); (case T => k_asm); (case k => exact rfl); (case d => ((try simp +zetaDelta only [depth_under_make, depth_under_kw, depth_in1, depth_deeper]); (try dsimp only [ktrTop]); (first | exact rl1 (by assumption) (by exact rfl) | exact rl2 (by assumption) (by exact rfl) | exact rl3 (by assumption) (by exact rfl) | omega))); (case u => ktr_units); intro r9 post9 h9 tk9 F' N' P9; revert P9; (refine an2 ?_); intro e9 e8; subst e9; (replace N' := newsEq N' e8); (first | clear e8 post9 | subst e8); (try dsimp only); (try k_sweep)))
  k_with "call ref" => (k_here; (with_reducible show wpAny _ _ (call (Value.ref 35) _) _ _ _); k_dflt (refine' runs_use (c_bk_slice ?S ?sub ?hm ?hT) ?B ?F ?X ?N ?T ?k ?d ?u ?_; (case B => k_asm); (case F => k_asm); (case X => k_asm); (case N => k_asm);(case S => assumption); (case sub => assumption); (case hm => k_mem); (case hT => kqd_in); (case T => k_asm); (case k => exact rfl); (case d => ((try simp +zetaDelta only [depth_under_make, depth_under_kw, depth_in1, depth_deeper]); (try dsimp only [ktrTop]); (first | exact rl1 (by assumption) (by exact rfl) | exact rl2 (by assumption) (by exact rfl) | exact rl3 (by assumption) (by exact rfl) | omega))); (case u => ktr_units); intro r9 post9 h9 tk9 F' N' P9; revert P9; (refine an2 ?_); intro P9 e8; revert P9; (refine ex1 ?_); intro t9 e9; subst e9; (replace N' := newsEq N' e8); (first | clear e8 post9 | subst e8); (try dsimp only); (try k_sweep)))
  k_with "eval Call" => (k_fold; (try (refine tok_gen ?_; intro tkz)))
  k_with "eval Call Attribute" => (k_fold; (try (refine tok_gen ?_; intro tkz)))
  k_with "eval Tuple" => (k_fold; (try (refine tok_gen ?_; intro tkz)))
  trivial
theorem im_sl {w : World} {rest : List (Addr × Obj)} {st lr li e : Addr} (S : SIn w rest st lr li) {t t' t1 t2 t3 : Tok} {v u : Value} {τ : Ty} {n : Num} {b : Addr} (hm : (e, tupO [sv "index" t, v, .int 0 t', .ref b, u]) ∈ rest) (hb : (b, tupO [sv "local" t1, .ref 430, .int 0 t2, .int 3 t3]) ∈ rest) : InMemC w st rest (.ref e) (.sl τ n) := by
  intro pre sub0
  have S0 := S
  obtain ⟨m1, m2, m3, m4, m5, m6, m7, m8, m9, m10, m11, m12, m13, m14, m15, i1, i2, g1, g2, g3, g4, g5, g6, g7, n1, n2, n3, n4, n5, n6, n7, n8, n9, x1, x2, x3, x4, x5⟩ := S
  unfold Runs
  k_fill
  intro p loose mean mg mb dp un gd cn cs a ccd cl outer A₀ base h₀ L m s Q E B F X N T hk hd hu ret
  simp only [Pl.size] at hd hu
  k_steps
  refine' ret _ _ _ _ ?F (News.sub ?N ?s) ⟨rfl, rfl⟩
  case F => k_asm
  case N => k_asm
  case s => kat_tups
theorem w_C15_1 : True := by
  k_with "call ref" => (k_here; (with_reducible show wpAny _ _ (call (Value.ref 35) _) _ _ _); k_dflt (refine' runs_use (c_bk_array ?S ?sub ?hm ?hT) ?B ?F ?X ?N ?T ?k ?d ?u ?_; (case B => k_asm); (case F => k_asm); (case X => k_asm); (case N => k_asm);(case S => assumption); (case sub => assumption); (case hm => k_mem); (case hT => kqd_in); (case T => k_asm); (case k => exact rfl); (case d => ((try simp +zetaDelta only [depth_under_make, depth_under_kw, depth_in1, depth_deeper]); (try dsimp only [ktrTop]); (first | exact rl1 (by assumption) (by exact rfl) | exact rl2 (by assumption) (by exact rfl) | exact rl3 (by assumption) (by exact rfl) | omega))); (case u => ktr_units); intro r9 post9 h9 tk9 F' N' P9; revert P9; (refine an2 ?_); intro P9 e8; revert P9; (refine ex1 ?_); intro t9 e9; subst e9; (replace N' := newsEq N' e8); (first | clear e8 post9 | subst e8); (try dsimp only); (try k_sweep)))
  trivial
theorem im_idx {w : World} {rest : List (Addr × Obj)} {st lr li e : Addr} (S : SIn w rest st lr li) {t t' tt : Tok} {te : Str} {v y : Value} {τ : Ty} {p : Pl} {n : Num} {b ty : Addr} {xs : List Value} {ds0 : List Dat} (hm : (e, tupO [sv "index" t, v, .int 0 t', .ref b, y]) ∈ rest) (hb : (b, tupO (.str te tt :: .ref ty :: xs)) ∈ rest) (hT : TIn (TL ++ rest) (.ref ty) (.tuple (sd "array" :: ds0))) (IH : InMemC w st rest (.ref b) p) : InMemC w st rest (.ref e) (.idx τ p n) := by
  intro pre sub0
  have S0 := S
  obtain ⟨m1, m2, m3, m4, m5, m6, m7, m8, m9, m10, m11, m12, m13, m14, m15, i1, i2, g1, g2, g3, g4, g5, g6, g7, n1, n2, n3, n4, n5, n6, n7, n8, n9, x1, x2, x3, x4, x5⟩ := S
  unfold Runs
  k_fill
  intro p loose mean mg mb dp un gd cn cs a ccd cl outer A₀ base h₀ L m s Q E B F X N T hk hd hu ret
  simp only [Pl.size] at hd hu
  k_steps
  refine' ret _ _ _ _ ?F (News.sub ?N ?s) ⟨rfl, rfl⟩
  case F => k_asm
  case N => k_asm
  case s => kat_tups
theorem im_all {w : World} {rest : List (Addr × Obj)} {st lr li : Addr} (S : SIn w rest st lr li) : ∀ {v : Value} {p : Pl}, PlIn rest v p → InMemC w st rest v p := by
  intro v p P
  induction P with
  | v0 h _ => exact im_v0 S h
  | w4 h _ => exact im_w4 S h
  | glob h _ => exact im_glob S h
  | dc h _ _ _ _ _ => exact im_dc S h
  | @dl _ _ _ _ _ _ _ _ _ _ τ h _ _ _ => exact (im_dc S h (τ := τ) : InMemC w st rest _ (.dc τ))
  | sl h _ b _ => exact im_sl S h b
  | fld h _ r ih => exact im_fld S h ih
  | idx h _ r e _ ih =>
    obtain ⟨a, te, tt, ty, xs, hv, hm, ht⟩ := r.head
    obtain ⟨ds0, hT⟩ := arr_tin ht e
    subst hv
    exact im_idx S h hm hT ih
theorem Runs.mono {w : World} {f : Addr} {args : List Value} {pre : List (Addr × Obj)} {dd uu dd' uu' : Nat} {Post Post' : Value → List (Addr × Obj) → Prop} (C : Runs w f args pre dd uu Post) (hd : dd ≤ dd') (hu : uu ≤ uu') (h : ∀ r post, Post r post → Post' r post) : Runs w f args pre dd' uu' Post' := by
  unfold Runs at *
  intro p loose mean mg mb dp un gd cn cs a ccd cl outer A₀ base h₀ L m s Q E B F X N T hk hd' hu' ret
  exact C p loose mean mg mb dp un gd cn cs a ccd cl outer A₀ base h₀ L m s Q E B F X N T hk (by omega) (by omega) fun r post h' tk' F' N' P => ret r post h' tk' F' N' (h r post P)
theorem num_val_ref {led : List (Addr × Obj)} {r : Value} {k : Num} (T : TIn led r k.val) : ∃ a ds0, r = .ref a ∧ ((k = .loc ∧ TIn led (.ref a) (.tuple (sd "reg" :: ds0)) ∧ k.val = .tuple (sd "reg" :: ds0)) ∨ (∃ j, k = .cst j ∧ TIn led (.ref a) (.tuple (sd "const" :: ds0)) ∧ k.val = .tuple (sd "const" :: ds0))) := by
  cases k with
  | loc => cases T with | tup h t => exact ⟨_, _, rfl, .inl ⟨rfl, .tup h t, rfl⟩⟩
  | cst j => cases T with | tup h t => exact ⟨_, _, rfl, .inr ⟨j, rfl, .tup h t, rfl⟩⟩
section
variable {w : World} {rest pre : List (Addr × Obj)} {st lr li : Addr} {n : Nat} {ds : List Dat}
theorem c_valN {v : Value} {k : Num} (S : SIn w rest st lr li) (V : Lv lr li n ds rest pre) (hv : NumIn rest v k) : Runs w 272 [.ref st, v] pre 16 120 (SPost lr li rest n ds k.val) := by
  cases hv with
  | loc h => exact c_valL S V h (.inl rfl)
  | cst h => exact c_valC S V h t420 (.int _ rfl)
theorem c_keptN {r tv : Value} {k : Num} (S : SIn w rest st lr li) (V : Lv lr li n ds rest pre) (hz : n ≤ 800) (hy : ds.length ≤ 800) (hT : TIn (TL ++ rest) r k.val) : Runs w 258 [.ref st, r, tv] pre 8 60 (SPost lr li rest (n + (k.rows n).length) (ds ++ k.rows n) (k.keep n)) := by
  obtain ⟨a, ds0, rfl, ⟨rfl, T, e⟩ | ⟨j, rfl, T, e⟩⟩ := num_val_ref hT
  · have := c_keptR S V hz hy T (tv := tv)
    rw [← e] at this
    exact this
  · have := c_keptC S V T (tv := tv)
    rw [← e] at this
    simpa [Num.rows, Num.keep, Num.val] using this
end
inductive StIn (led : List (Addr × Obj)) : Value → Step → Prop
  | mk {x : Addr} {t : Tok} {v u : Value} {s : Step} : (x, tupO [sv s.word t, v, u]) ∈ led → TIn (TL ++ led) v s.told → TIn (TL ++ led) u s.ty.dat → StIn led (.ref x) s
inductive StAll (led : List (Addr × Obj)) : List Value → List Step → Prop
  | nil : StAll led [] []
  | cons {v : Value} {vs : List Value} {s : Step} {ss : List Step} : StIn led v s → StAll led vs ss → StAll led (v :: vs) (s :: ss)
theorem StIn.tin {led : List (Addr × Obj)} {v : Value} {s : Step} : StIn led v s → TIn (TL ++ led) v s.dat
  | .mk h a b => .tup (led_mem h) (.cons (.str _ _) (.cons a (.cons b .nil)))
theorem StAll.tall {led : List (Addr × Obj)} : ∀ {vs : List Value} {ss : List Step}, StAll led vs ss → TAll (TL ++ led) vs (ss.map Step.dat)
  | _, _, .nil => .nil
  | _, _, .cons a r => .cons a.tin (StAll.tall r)
theorem StIn.mono {led led' : List (Addr × Obj)} (hs : ∀ p ∈ led, p ∈ led') {v : Value} {s : Step} : StIn led v s → StIn led' v s
  | .mk h a b => .mk (hs _ h) (a.up hs) (b.up hs)
theorem StAll.mono {led led' : List (Addr × Obj)} (hs : ∀ p ∈ led, p ∈ led') : ∀ {vs : List Value} {ss : List Step}, StAll led vs ss → StAll led' vs ss
  | _, _, .nil => .nil
  | _, _, .cons a r => .cons (a.mono hs) (StAll.mono hs r)
theorem StAll.snoc {led : List (Addr × Obj)} {v : Value} {s : Step} (h : StIn led v s) : ∀ {vs : List Value} {ss : List Step}, StAll led vs ss → StAll led (vs ++ [v]) (ss ++ [s])
  | _, _, .nil => .cons h .nil
  | _, _, .cons a r => .cons a (StAll.snoc h r)
theorem StAll.one {led : List (Addr × Obj)} {v : Value} {s : Step} (h : StIn led v s) : StAll led [v] [s] := .cons h .nil
theorem StAll.len {led : List (Addr × Obj)} : ∀ {vs : List Value} {ss : List Step}, StAll led vs ss → vs.length = ss.length
  | _, _, .nil => rfl
  | _, _, .cons _ r => by simp [StAll.len r]
inductive WayIn (rest : List (Addr × Obj)) (y : Way) : Value → Prop
  | mk {a sa : Addr} {b : Value} {vs : List Value} : (a, tupO [b, .ref sa]) ∈ rest → (sa, tupO vs) ∈ rest → TIn (TL ++ rest) b y.begin → StAll rest vs y.steps → WayIn rest y (.ref a)
theorem WayIn.mono {led led' : List (Addr × Obj)} (hs : ∀ p ∈ led, p ∈ led') {v : Value} {y : Way} : WayIn led y v → WayIn led' y v
  | .mk a b c d => .mk (hs _ a) (hs _ b) (c.up hs) (d.mono hs)
theorem WayIn.tin {led : List (Addr × Obj)} {v : Value} {y : Way} : WayIn led y v → TIn (TL ++ led) v y.dat
  | .mk a b c d => .tup (led_mem a) (.cons c (.cons (.tup (led_mem b) d.tall) .nil))
def WPost (lr li : Addr) (rest : List (Addr × Obj)) (n : Nat) (ds : List Dat) (y : Way) (r : Value) (post : List (Addr × Obj)) : Prop := ∃ rest', (∀ p ∈ rest, p ∈ rest') ∧ Lv lr li n ds rest' post ∧ WayIn rest' y r
theorem wpost {lr li : Addr} {rest rest' : List (Addr × Obj)} {n n' : Nat} {ds ds' : List Dat} {y : Way} {r : Value} {post : List (Addr × Obj)} (V : Lv lr li n' ds' rest' post) (hn : n' = n) (hd : ds' = ds) (up : ∀ p ∈ rest, p ∈ rest') (T : WayIn rest' y r) : WPost lr li rest n ds y r post := ⟨rest', up, V.cast hn hd, T⟩
def WayC (w : World) (st lr li : Addr) (rest : List (Addr × Obj)) (v : Value) (p : Pl) : Prop := ∀ rest' pre n ds, (∀ x ∈ rest, x ∈ rest') → Lv lr li n ds rest' pre → n + 4 * p.size ≤ 700 → ds.length + 4 * p.size ≤ 700 →
  Runs w 56 [.ref st, v] pre (30 + 10 * p.size) (300 + 100 * p.size) (WPost lr li rest' (n + (p.way n).rows.length) (ds ++ (p.way n).rows) (p.way n))
theorem way_use {w : World} {st lr li : Addr} {rest rest' pre : List (Addr × Obj)} {v : Value} {p : Pl} {n : Nat} {ds : List Dat} (h : WayC w st lr li rest v p) (up : ∀ x ∈ rest, x ∈ rest') (V : Lv lr li n ds rest' pre) (hz : n + 4 * p.size ≤ 700) (hy : ds.length + 4 * p.size ≤ 700) :
  Runs w 56 [.ref st, v] pre (30 + 10 * p.size) (300 + 100 * p.size) (WPost lr li rest' (n + (p.way n).rows.length) (ds ++ (p.way n).rows) (p.way n)) := h _ _ _ _ up V hz hy
theorem num_rows_le (k : Num) (n : Nat) : (k.rows n).length ≤ 1 := by cases k <;> simp [Num.rows]
theorem way_rows_le : ∀ (p : Pl) (n : Nat), (p.way n).rows.length ≤ 2 * p.size
  | .v0 _, _ => by simp [Pl.way] | .w4 _, _ => by simp [Pl.way] | .glob _, _ => by simp [Pl.way] | .dc _, _ => by simp [Pl.way]
  | .dl _, _ => by simp [Pl.way, Pl.size]
  | .sl _ k, n => by have := num_rows_le k (n + 1); simp [Pl.way, Pl.size]; omega
  | .fld _ p _, n => by have := way_rows_le p n; simp [Pl.way, Pl.size]; omega
  | .idx _ p k, n => by have := way_rows_le p n; have := num_rows_le k (n + (p.way n).rows.length); simp [Pl.way, Pl.size]; omega
theorem way_steps_le : ∀ (p : Pl) (n : Nat), (p.way n).steps.length ≤ p.size
  | .v0 _, _ => by simp [Pl.way] | .w4 _, _ => by simp [Pl.way] | .glob _, _ => by simp [Pl.way] | .dc _, _ => by simp [Pl.way]
  | .dl _, _ => by simp [Pl.way]
  | .sl _ k, n => by simp [Pl.way, Pl.size]
  | .fld _ p _, n => by have := way_steps_le p n; simp [Pl.way, Pl.size]; omega
  | .idx _ p k, n => by have := way_steps_le p n; simp [Pl.way, Pl.size]; omega
section
variable {prog : Program} {w : World} {A : Around} {E : Value → Shared → Prop} {s : Shared} {h₀ : Heap} {L : Addr} {m : Str → Option Value} {news : List (Addr × Obj)}
theorem snoc_add {lr li : Addr} {n : Nat} {ds : List Dat} {rest : List (Addr × Obj)} {sa b : Addr} {vs : List Value} {x : Value} {Q : Value → Shared → Prop} (F : Fr h₀ L s.heap m) (N : News h₀ L s.heap news) (V : Lv lr li n ds rest news) (ha : (sa, tupO vs) ∈ rest) (hb : (b, tupO [x]) ∈ rest) (hz : vs.length ≤ 900)
    (h : ∀ D h' rest' news', Fr h₀ L h' m → News h₀ L h' news' → (∀ p ∈ rest, p ∈ rest') → Lv lr li n ds rest' news' → (D, tupO (vs ++ [x])) ∈ rest' → (∀ p ∈ rest', p ∈ news') → Q (.ref D) { s with heap := h' }) :
    wpAny (model prog w) A (binaryOp .Add (.ref sa) (.ref b)) Q E s := by
  have ha' := V.sub _ ha
  have hb' := V.sub _ hb
  cases vs with
  | nil => exact kde_addT0 F N (N.isTup ha') (N.isTup hb') (by simp) (by simp) (h b s.heap rest news F N (fun _ q => q) V hb V.sub)
  | cons y ys =>
    refine tup_add F N ha' hb' (List.cons_ne_nil _ _) (List.cons_ne_nil _ _) (by simp at hz ⊢; omega) rfl fun D h' F' N' l => ?_
    exact h D h' _ _ F' N' (fun _ q => .tail _ q) (V.push l) (.head _) (V.push l).sub
end
section
variable {w : World} {rest pre : List (Addr × Obj)} {st lr li : Addr} {n : Nat} {ds : List Dat}
theorem c_keptR1 {r tv : Value} {ds0 : List Dat} (S : SIn w rest st lr li) (V : Lv lr li n ds rest pre) (hz : n ≤ 800) (hy : ds.length ≤ 800) (hT : TIn (TL ++ rest) r (.tuple (sd "reg" :: ds0))) :
    Runs w 258 [.ref st, r, tv] pre 8 60 (SPost lr li rest (n + 1) (ds ++ [row1 "move" n (.tuple (sd "reg" :: ds0))]) (reg n)) := by
  cases hT with | tup h t => exact c_keptR S V hz hy (.tup h t)
theorem c_keptC1 {r tv : Value} {ds0 : List Dat} (S : SIn w rest st lr li) (V : Lv lr li n ds rest pre) (hT : TIn (TL ++ rest) r (.tuple (sd "const" :: ds0))) :
    Runs w 258 [.ref st, r, tv] pre 8 60 (SPost lr li rest n ds (.tuple (sd "const" :: ds0))) := by
  cases hT with | tup h t => exact c_keptC S V (.tup h t)
end
theorem NumIn.head {led : List (Addr × Obj)} {v : Value} {k : Num} (h : NumIn led v k) : ∃ a te tt xs, v = .ref a ∧ (a, tupO (.str te tt :: .ref 420 :: xs)) ∈ led := by
  cases h with
  | loc h => exact ⟨_, _, _, _, rfl, h⟩
  | cst h => exact ⟨_, _, _, _, rfl, h⟩
theorem steps_small {p : Pl} {n : Nat} {led : List (Addr × Obj)} {vs : List Value} (h : StAll led vs (p.way n).steps) (hz : n + 4 * p.size ≤ 700) : vs.length ≤ 900 := by
  have := h.len
  have := way_steps_le p n
  omega
theorem StIn.elem {led : List (Addr × Obj)} {x : Addr} {t : Tok} {v u : Value} {d : Dat} {τ : Ty} (h : (x, tupO [sv "elem" t, v, u]) ∈ led) (a : TIn (TL ++ led) v d) (b : TIn (TL ++ led) u τ.dat) : StIn led (.ref x) ⟨false, d, τ⟩ := .mk h a b
theorem StIn.field {led : List (Addr × Obj)} {x : Addr} {t : Tok} {v u : Value} {d : Dat} {τ : Ty} (h : (x, tupO [sv "field" t, v, u]) ∈ led) (a : TIn (TL ++ led) v d) (b : TIn (TL ++ led) u τ.dat) : StIn led (.ref x) ⟨true, d, τ⟩ := .mk h a b
local macro_rules | `(tactic| kqd_all) => `(tactic| first
  | exact StAll.nil
  | (with_reducible refine' StAll.snoc ?x ?y; (case y => (refine StAll.mono ?_ (by assumption); kat_tups)); (case x => first
      | (refine' StIn.elem ?m ?a ?b; (case m => k_mem); (case a => kqd_in); (case b => kqd_in))
      | (refine' StIn.field ?m ?a ?b; (case m => k_mem); (case a => kqd_in); (case b => kqd_in))))
  | (refine' StAll.one ?x; (case x => (refine' StIn.elem ?m ?a ?b; (case m => k_mem); (case a => kqd_in); (case b => kqd_in)))))
theorem w_C16_0 : True := by
  w_top off
  k_with_none
  k_with "k_all" => (assumption)
  k_with "eval Dict" => (k_here; k_dflt (first
  | (refine' kdn_str ?q ?F ?N ?b ?a ?l ?e ?n ?_; (case q => rfl); (case F => k_asm); (case N => first | k_asm | exact News.nil); (case b => exact Top.nolimit (by k_asm)); (case a => rfl); (case l => rfl); (case e => exact List.cons_ne_nil _ _); (case n => exact Nat.le_of_ble_eq_true rfl))
  | (refine' kdn_int ?q ?F ?N ?b ?a ?l ?e ?n ?_; (case q => rfl); (case F => k_asm); (case N => first | k_asm | exact News.nil); (case b => exact Top.nolimit (by k_asm)); (case a => rfl); (case l => rfl); (case e => exact List.cons_ne_nil _ _); (case n => exact Nat.le_of_ble_eq_true rfl))); intro d' h' o' F' N' l1 lo' hd'; (try k_lt l1))
  k_with "eval Dict nil nil" => (k_here; k_dflt (refine' newDict_K ?k1 ?k2 (TopRead.nolimit (by k_asm)) ?_; (case k1 => k_asm); (case k2 => k_asm); k_whole); intro d' h' o' F' N' l1 lo' hs' fs' hi' fi'; (try k_lt l1); (try k_sweep))
  k_with "ktr_room" => (refine room_of ?_; (try simp +zetaDelta only [depth_under_make, depth_under_kw, depth_in1, depth_deeper]); (try dsimp only [ktrTop]); (first | exact rl1 (by assumption) (by exact rfl) | exact rl2 (by assumption) (by exact rfl) | exact rl3 (by assumption) (by exact rfl) | omega))
  k_with "ktr_enter" => (refine' code_def ?k1 ?k2 ?k3 ?k4 ?k5 ?kA ?kF ?kK ?k6 ?k7 ?k8 ?k9 ?kB ?_ ?c2 ?c3 ?c4 ?c5; (case kA => exact rfl); (case kF => exact rfl); (case kK => first | exact rfl | assumption); (case k1 => k_asm); (case k2 => k_asm); (case k3 => k_asm); (case k4 => k_asm); (case k5 => k_asm); (case k6 => k_is); (case k7 => k_is); (case k8 => ktr_room); (case k9 => first | exact BindsTo.of_eq rfl | exact binds_K (by k_in) rfl (by k_is) rfl rfl rfl); (case c5 => decide); (case kB => exact locs rfl); (case c2 => exact rfl); (case c3 => exact rfl); (case c4 => exact rfl); k_whole; intro g' L' h' FG' F' N' B' X' T'; (try dsimp only); (try k_fold); (try (refine let_enter ?_; intro M1 A1)))
  k_with "call ref" => (k_here; k_dflt (first
  | (refine wpAny_call ?_; ktr_enter)
  | (refine' call_cls0 ?k1 ?k2 ?k3 ?k4 ?k5 ?_; (case k1 => k_asm); (case k2 => k_asm); (case k3 => k_asm); (case k4 => k_is); (case k5 => k_is); k_whole; intro x' d' h' F' N' l1 l2; (try k_lt l1); (try k_lt2 l2); (try k_sweep))
  | (refine' call_cls ?k1 ?k2 ?k3 ?k4 ?k5 ?k6 ?_; (case k1 => k_asm); (case k2 => k_asm); (case k3 => k_asm); (case k4 => k_is); (case k5 => k_is); (case k6 => k_is); k_whole; intro x' d' h' F' N' l1 l2; (try k_lt l1); (try k_lt2 l2); (try k_sweep); ktr_enter)
  | (refine' call_meth ?k1 ?k2 ?_; (case k1 => k_asm); (case k2 => k_mem); k_whole; ktr_enter)))
  k_with "ktr_units" => ((try simp +zetaDelta only [units_in1, units_deeper, Around.mark_units, units_make]); (try dsimp only [ktrTop]); first | exact rl1 (by assumption) (by exact rfl) | exact rl2 (by assumption) (by exact rfl) | exact rl3 (by assumption) (by exact rfl) | omega | ((show _ < (9900 : Nat)); omega))
  k_with "call type:frozenset" => (k_here; k_dflt (refine' fz_call ?F ?N ?m ?d ?z ?_; (case F => k_asm); (case N => k_asm); (case m => k_mem); (case d => k_asm); (case z => k_asm)); intro D' h' tq' led' F' N' l1; (try k_lt l1))
  k_with "compareOp In int ref" => (k_here; k_dflt (refine' fz_in ?N ?m ?_; (case N => k_asm); (case m => k_mem)))
  k_with "call type:list" => (k_here; (with_reducible show wpAny _ _ (call (Value.type "list") [Value.ref _]) _ _ _); k_dflt (refine' list_copyK ?k1 ?k2 ?k3 ?_ ?z; (case k1 => k_asm); (case k2 => k_asm); (case k3 => exact News.isList (by k_asm) (by k_mem)); (case z => first | exact Nat.le_of_ble_eq_true rfl | omega); k_whole); intro D' c' h' F' N' l1; (try k_lt l1); (try k_sweep))
  k_with "k_mem" => (with_reducible kcf_m)
  k_with "k_get" => (with_reducible assumption)
  k_with "call builtin:len" => (k_here; (with_reducible show wpAny _ _ (call (Value.builtin "len") [Value.ref _]) _ _ _); k_dflt (refine' len_arr ?N ?m ?z ?_; (case N => k_asm); (case m => k_mem); (case z => (simp only [Array.size_push, List.size_toArray]; omega))))
  k_with "kcf_m" => (refine via (by assumption) ?_; kcf_m)
  k_with "subscriptTail Name Slice ref ref" => (k_here; (with_reducible show wpAny _ _ (subscriptTail _ _ (Value.ref _) (Value.ref _)) _ _ _); k_dflt (first
  | (refine' tup_head ?F ?N ?m ?h0 ?b ?e ?_ ?s ?t ?z; (case F => k_asm); (case N => k_asm); (case m => k_mem); (case h0 => decide); (case b => first | exact Nat.le_of_ble_eq_true rfl | (simp only [List.length_cons]; omega)); (case e => first | exact tk1 | exact dp1 | exact dp2 | exact rfl); (case s => with_unfolding_all rfl); (case t => kmk_pure); (case z => first | exact Nat.le_of_ble_eq_true rfl | (simp only [List.length_cons]; omega)))
  | (refine' tup_rest ?F ?N ?m ?h0 ?b ?e ?_ ?s ?t ?z; (case F => k_asm); (case N => k_asm); (case m => k_mem); (case h0 => decide); (case b => first | exact Nat.le_of_ble_eq_true rfl | (simp only [List.length_cons]; omega)); (case e => first | exact tk1 | exact dp1 | exact dp2 | exact rfl); (case s => with_unfolding_all rfl); (case t => kmk_pure); (case z => first | exact Nat.le_of_ble_eq_true rfl | (simp only [List.length_cons]; omega)))); intro D' h' F' N' l1; (try k_lt l1); (try k_sweep))
  k_with "subscriptTail" => (k_here; (with_reducible show wpAny _ _ (subscriptTail _ _ (Value.ref _) (Value.int _ _)) _ _ _); k_dflt (first
  | (refine' list_tailL ?N ?m ?a ?b ?x ?_ ?s; (case N => k_asm); (case m => k_mem); (case a => decide); (case b => decide); (case x => first | exact rfl | assumption); (case s => with_unfolding_all rfl))
  | (refine' dict_tail (knd := intKind _ _) ?N ?m ?d ?k ?v ?_ ?s; (case N => k_asm); (case m => k_mem); (case d => with_reducible assumption); (case k => exact intKind_is _ _ _ _); (case v => first | with_reducible assumption | exact rfl); (case s => with_unfolding_all rfl))))
  k_with "subscriptTail" => (k_here; (with_reducible show wpAny _ _ (subscriptTail _ _ (Value.ref _) (Value.str _ _)) _ _ _); k_dflt
  (refine' dict_tail (knd := strKind _ _) ?N ?m ?d ?k ?v ?_ ?s; (case N => k_asm); (case m => k_mem); (case d => with_reducible assumption); (case k => exact strKind_is _ _ _ _); (case v => exact rfl); (case s => with_unfolding_all rfl)))
  k_with "getItem ref str" => (k_here; k_dflt
  (refine' dict_get (knd := strKind _ _) ?N ?m ?d ?k ?v ?_; (case N => k_asm); (case m => k_mem); (case d => with_reducible assumption); (case k => exact strKind_is _ _ _ _); (case v => exact rfl)))
  k_with "compareOp In int ref" => (k_here; k_dflt (refine' fz_in' ?N ?m ?b ?_; (case N => k_asm); (case m => k_mem); (case b => first | assumption | exact rfl)))
  k_with "binaryOp Add ref ref" => (k_here; k_dflt (refine' tup_add ?F ?N ?a ?b ?v ?w ?z ?e ?_; (case F => k_asm); (case N => k_asm); (case a => k_mem); (case b => k_mem); (case v => first | exact List.cons_ne_nil _ _ | assumption); (case w => first | exact List.cons_ne_nil _ _ | assumption); (case z => first | exact Nat.le_of_ble_eq_true rfl | (simp only [List.length_cons, List.length_nil]; omega)); (case e => first | exact ap1 | exact ap2 | exact rfl)); intro D' h' F' N' l1; (try k_lt l1); (try k_sweep))
  k_with "newTuple" => (k_here; k_dflt (refine' kup_newTuple ?F ?N ?_ ?z; (case F => k_asm); (case N => k_asm); (case z => kmk_size)); intro D' h' F' N' l1; (try k_sweep))
  k_with "k_offL" => (first | omega | ((try simp only [List.length_append, List.length_cons, List.length_nil]); omega))
  k_with "subscriptTail" => (k_here; (with_reducible show wpAny _ _ (subscriptTail _ _ (Value.ref _) (Value.int 0 _)) _ _ _); k_dflt (refine' tin_sub0 ?F ?X ?N ?T ?_ ?s; (case F => k_asm); (case X => k_asm); (case N => k_asm); (case T => (refine TIn.up (by assumption) ?_; kat_tups)); (case s => with_unfolding_all rfl)); intro t0')
  k_with "subscriptTail" => (k_here; (with_reducible show wpAny _ _ (subscriptTail _ _ (Value.ref _) (Value.int _ _)) _ _ _); k_dflt (refine' tup_item ?N ?m ?a ?b ?x ?_ ?s; (case N => k_asm); (case m => k_mem); (case a => decide); (case b => decide); (case x => exact rfl); (case s => with_unfolding_all rfl)))
  k_with "binaryOp Add ref ref" => (k_here; k_dflt (refine' snoc_add ?F ?N ?V ?a ?b ?z ?_; (case F => k_asm); (case N => k_asm); (case V => ktu_offI); (case a => k_mem); (case b => k_mem); (case z => first | exact Nat.le_of_ble_eq_true rfl | exact steps_small (by assumption) (by k_offL))); intro D' h' rest9 news9 F' N' up9 V9 m9 sub9; (try k_sweep))
  k_with "eval Call" => (k_fold; (try (refine tok_gen ?_; intro tkz)))
  k_with "eval Call Attribute" => (k_fold; (try (refine tok_gen ?_; intro tkz)))
  k_with "eval Tuple" => (k_fold; (try (refine tok_gen ?_; intro tkz)))
  trivial
theorem wy_v0 {w : World} {rest : List (Addr × Obj)} {st lr li e : Addr} (S' : SIn w rest st lr li) {t t' t'' : Tok} {v : Value} {τ : Ty} (hm : (e, tupO [sv "local" t, v, .int 0 t', .int 0 t'']) ∈ rest) : WayC w st lr li rest (.ref e) (.v0 τ) := by
  intro rest' pre n ds up0 V hz hy
  have S := S'.mono up0
  simp only [Pl.size] at hz hy
  have S0 := S
  obtain ⟨m1, m2, m3, m4, m5, m6, m7, m8, m9, m10, m11, m12, m13, m14, m15, i1, i2, g1, g2, g3, g4, g5, g6, g7, n1, n2, n3, n4, n5, n6, n7, n8, n9, x1, x2, x3, x4, x5⟩ := S
  have sub0 := V.sub
  unfold Runs
  k_fill
  intro p loose mean mg mb dp un gd cn cs a ccd cl outer A₀ base h₀ L m s Q E B F X N T hk hd hu ret
  simp only [Pl.size] at hd hu
  k_steps
  refine' ret _ _ _ _ ?F ?N (wpost ?V ?hn ?hd ?up (WayIn.mk ?a ?b ?c ?d))
  case F => k_asm
  case N => k_asm
  case V => ktu_offI
  case hn => first | rfl | (simp only [Pl.way, List.length_append, List.length_cons]; omega)
  case hd => first | rfl | (simp [Pl.way]; done)
  case up => kat_tups
  case a => k_mem
  case b => k_mem
  case c => kqd_in
  case d => (try simp only [Pl.way]); kqd_all
theorem wy_w4 {w : World} {rest : List (Addr × Obj)} {st lr li e : Addr} (S' : SIn w rest st lr li) {t t' t'' : Tok} {v : Value} {τ : Ty} (hm : (e, tupO [sv "local" t, v, .int 0 t', .int 4 t'']) ∈ rest) : WayC w st lr li rest (.ref e) (.w4 τ) := by
  intro rest' pre n ds up0 V hz hy
  have S := S'.mono up0
  simp only [Pl.size] at hz hy
  have S0 := S
  obtain ⟨m1, m2, m3, m4, m5, m6, m7, m8, m9, m10, m11, m12, m13, m14, m15, i1, i2, g1, g2, g3, g4, g5, g6, g7, n1, n2, n3, n4, n5, n6, n7, n8, n9, x1, x2, x3, x4, x5⟩ := S
  have sub0 := V.sub
  obtain ⟨u4', hv4⟩ := held_of i2 (k := 4) (.inr (.inr (.inr rfl)))
  unfold Runs
  k_fill
  intro p loose mean mg mb dp un gd cn cs a ccd cl outer A₀ base h₀ L m s Q E B F X N T hk hd hu ret
  simp only [Pl.size] at hd hu
  k_steps
  refine' ret _ _ _ _ ?F ?N (wpost ?V ?hn ?hd ?up (WayIn.mk ?a ?b ?c ?d))
  case F => k_asm
  case N => k_asm
  case V => ktu_offI
  case hn => first | rfl | (simp only [Pl.way, List.length_append, List.length_cons]; omega)
  case hd => first | rfl | (simp [Pl.way]; done)
  case up => kat_tups
  case a => k_mem
  case b => k_mem
  case c => kqd_in
  case d => (try simp only [Pl.way]); kqd_all
theorem wy_glob {w : World} {rest : List (Addr × Obj)} {st lr li e : Addr} (S' : SIn w rest st lr li) {t t' t'' : Tok} {v : Value} {τ : Ty} (hm : (e, tupO [sv "global" t, v, .int 0 t', sv "m.g" t'']) ∈ rest) (hv : TyIn rest v τ) : WayC w st lr li rest (.ref e) (.glob τ) := by
  intro rest' pre n ds up0 V hz hy
  have S := S'.mono up0
  simp only [Pl.size] at hz hy
  have S0 := S
  obtain ⟨m1, m2, m3, m4, m5, m6, m7, m8, m9, m10, m11, m12, m13, m14, m15, i1, i2, g1, g2, g3, g4, g5, g6, g7, n1, n2, n3, n4, n5, n6, n7, n8, n9, x1, x2, x3, x4, x5⟩ := S
  have sub0 := V.sub
  unfold Runs
  k_fill
  intro p loose mean mg mb dp un gd cn cs a ccd cl outer A₀ base h₀ L m s Q E B F X N T hk hd hu ret
  simp only [Pl.size] at hd hu
  k_steps
  refine' ret _ _ _ _ ?F ?N (wpost ?V ?hn ?hd ?up (WayIn.mk ?a ?b ?c ?d))
  case F => k_asm
  case N => k_asm
  case V => ktu_offI
  case hn => first | rfl | (simp only [Pl.way, List.length_append, List.length_cons]; omega)
  case hd => first | rfl | (simp [Pl.way]; done)
  case up => kat_tups
  case a => k_mem
  case b => k_mem
  case c => kqd_in
  case d => (try simp only [Pl.way]); kqd_all
theorem w_C16_1 : True := by
  k_with "call ref" => (k_here; (with_reducible show wpAny _ _ (call (Value.ref 272) _) _ _ _); k_dflt (refine' runs_use (c_valC ?S ?V ?hm ?hT ?hX) ?B ?F ?X ?N ?T ?k ?d ?u ?_; (case B => k_asm); (case F => k_asm); (case X => k_asm); (case N => k_asm);(case V => ktu_offI); (case S => (refine SIn.mono ?_ (by assumption); kat_tups)); (case hm => k_mem); (case hT => kqd_in); (case hX => kqd_in); (case T => k_asm); (case k => exact rfl); (case d => ((try simp +zetaDelta only [depth_under_make, depth_under_kw, depth_in1, depth_deeper]); (try dsimp only [ktrTop]); (first | exact rl1 (by assumption) (by exact rfl) | exact rl2 (by assumption) (by exact rfl) | exact rl3 (by assumption) (by exact rfl) | omega))); (case u => ktr_units); intro r9 post9 h9 tk9 F' N' P9; revert P9; (refine ex1 ?_); intro rest9 P9; revert P9; (refine an3 ?_); intro up9 V9 T9; have sub9 := V9.sub; (try dsimp only); (try k_sweep)))
  k_with "call ref" => (k_here; (with_reducible show wpAny _ _ (call (Value.ref 258) _) _ _ _); k_dflt (refine' runs_use (c_keptC1 ?S ?V ?hT) ?B ?F ?X ?N ?T ?k ?d ?u ?_; (case B => k_asm); (case F => k_asm); (case X => k_asm); (case N => k_asm);(case V => ktu_offI); (case S => (refine SIn.mono ?_ (by assumption); kat_tups)); (case hT => (refine TIn.up (by assumption) ?_; kat_tups)); (case T => k_asm); (case k => exact rfl); (case d => ((try simp +zetaDelta only [depth_under_make, depth_under_kw, depth_in1, depth_deeper]); (try dsimp only [ktrTop]); (first | exact rl1 (by assumption) (by exact rfl) | exact rl2 (by assumption) (by exact rfl) | exact rl3 (by assumption) (by exact rfl) | omega))); (case u => ktr_units); intro r9 post9 h9 tk9 F' N' P9; revert P9; (refine ex1 ?_); intro rest9 P9; revert P9; (refine an3 ?_); intro up9 V9 T9; have sub9 := V9.sub; (try dsimp only); (try k_sweep)))
  trivial
theorem wy_dc {w : World} {rest : List (Addr × Obj)} {st lr li e : Addr} (S' : SIn w rest st lr li) {t t' t1 t2 t3 t4 t5 : Tok} {v : Value} {τ : Ty} {b c d e' : Addr} (hm : (e, tupO [sv "deref" t, v, .int 0 t', .ref b]) ∈ rest) (h1 : (b, tupO [sv "const" t1, .ref c, .int 0 t2, .ref d]) ∈ rest) (h2 : (c, tupO [sv "ptr" t3, .ref 420]) ∈ rest) (h3 : (d, tupO [sv "ptr" t4, .int 5 t5, .ref e']) ∈ rest) (h4 : (e', tupO []) ∈ rest) : WayC w st lr li rest (.ref e) (.dc τ) := by
  intro rest' pre n ds up0 V hz hy
  have S := S'.mono up0
  simp only [Pl.size] at hz hy
  have S0 := S
  obtain ⟨m1, m2, m3, m4, m5, m6, m7, m8, m9, m10, m11, m12, m13, m14, m15, i1, i2, g1, g2, g3, g4, g5, g6, g7, n1, n2, n3, n4, n5, n6, n7, n8, n9, x1, x2, x3, x4, x5⟩ := S
  have sub0 := V.sub
  unfold Runs
  k_fill
  intro p loose mean mg mb dp un gd cn cs a ccd cl outer A₀ base h₀ L m s Q E B F X N T hk hd hu ret
  simp only [Pl.size] at hd hu
  k_steps
  refine' ret _ _ _ _ ?F ?N (wpost ?V ?hn ?hd ?up (WayIn.mk ?a ?b ?c ?d))
  case F => k_asm
  case N => k_asm
  case V => ktu_offI
  case hn => first | rfl | (simp only [Pl.way, List.length_append, List.length_cons]; omega)
  case hd => first | rfl | (simp [Pl.way]; done)
  case up => kat_tups
  case a => k_mem
  case b => k_mem
  case c => kqd_in
  case d => (try simp only [Pl.way]); kqd_all
theorem w_C16_2 : True := by
  k_with "call ref" => (k_here; (with_reducible show wpAny _ _ (call (Value.ref 272) _) _ _ _); k_dflt (refine' runs_use (c_valL ?S ?V ?hm ?hk) ?B ?F ?X ?N ?T ?k ?d ?u ?_; (case B => k_asm); (case F => k_asm); (case X => k_asm); (case N => k_asm);(case V => ktu_offI); (case S => (refine SIn.mono ?_ (by assumption); kat_tups)); (case hm => k_mem); (case hk => first | exact Or.inl rfl | exact Or.inr (Or.inl rfl) | exact Or.inr (Or.inr (Or.inl rfl)) | exact Or.inr (Or.inr (Or.inr rfl))); (case T => k_asm); (case k => exact rfl); (case d => ((try simp +zetaDelta only [depth_under_make, depth_under_kw, depth_in1, depth_deeper]); (try dsimp only [ktrTop]); (first | exact rl1 (by assumption) (by exact rfl) | exact rl2 (by assumption) (by exact rfl) | exact rl3 (by assumption) (by exact rfl) | omega))); (case u => ktr_units); intro r9 post9 h9 tk9 F' N' P9; revert P9; (refine ex1 ?_); intro rest9 P9; revert P9; (refine an3 ?_); intro up9 V9 T9; have sub9 := V9.sub; (try dsimp only); (try k_sweep)))
  k_with "call ref" => (k_here; (with_reducible show wpAny _ _ (call (Value.ref 258) _) _ _ _); k_dflt (refine' runs_use (c_keptR1 ?S ?V ?hz ?hy ?hT) ?B ?F ?X ?N ?T ?k ?d ?u ?_; (case B => k_asm); (case F => k_asm); (case X => k_asm); (case N => k_asm);(case V => ktu_offI); (case S => (refine SIn.mono ?_ (by assumption); kat_tups)); (case hT => (refine TIn.up (by assumption) ?_; kat_tups));(case hz => k_offL); (case hy => k_offL); (case T => k_asm); (case k => exact rfl); (case d => ((try simp +zetaDelta only [depth_under_make, depth_under_kw, depth_in1, depth_deeper]); (try dsimp only [ktrTop]); (first | exact rl1 (by assumption) (by exact rfl) | exact rl2 (by assumption) (by exact rfl) | exact rl3 (by assumption) (by exact rfl) | omega))); (case u => ktr_units); intro r9 post9 h9 tk9 F' N' P9; revert P9; (refine ex1 ?_); intro rest9 P9; revert P9; (refine an3 ?_); intro up9 V9 T9; have sub9 := V9.sub; (try dsimp only); (try k_sweep)))
  trivial
theorem wy_dl {w : World} {rest : List (Addr × Obj)} {st lr li e : Addr} (S' : SIn w rest st lr li) {t t' t1 t2 t3 : Tok} {v c : Value} {τ : Ty} {b : Addr} (hm : (e, tupO [sv "deref" t, v, .int 0 t', .ref b]) ∈ rest) (h1 : (b, tupO [sv "local" t1, c, .int 0 t2, .int 2 t3]) ∈ rest) : WayC w st lr li rest (.ref e) (.dl τ) := by
  intro rest' pre n ds up0 V hz hy
  have S := S'.mono up0
  simp only [Pl.size] at hz hy
  have S0 := S
  obtain ⟨m1, m2, m3, m4, m5, m6, m7, m8, m9, m10, m11, m12, m13, m14, m15, i1, i2, g1, g2, g3, g4, g5, g6, g7, n1, n2, n3, n4, n5, n6, n7, n8, n9, x1, x2, x3, x4, x5⟩ := S
  have sub0 := V.sub
  unfold Runs
  k_fill
  intro p loose mean mg mb dp un gd cn cs a ccd cl outer A₀ base h₀ L m s Q E B F X N T hk hd hu ret
  simp only [Pl.size] at hd hu
  k_steps
  refine' ret _ _ _ _ ?F ?N (wpost ?V ?hn ?hd ?up (WayIn.mk ?a ?b ?c ?d))
  case F => k_asm
  case N => k_asm
  case V => ktu_offI
  case hn => first | rfl | (simp only [Pl.way, List.length_append, List.length_cons]; omega)
  case hd => first | rfl | (simp [Pl.way]; done)
  case up => kat_tups
  case a => k_mem
  case b => k_mem
  case c => kqd_in
  case d => (try simp only [Pl.way]); kqd_all
theorem w_C17_0 : True := by
  w_top off
  k_with_none
  k_with "k_all" => (assumption)
  k_with "eval Dict" => (k_here; k_dflt (first
  | (refine' kdn_str ?q ?F ?N ?b ?a ?l ?e ?n ?_; (case q => rfl); (case F => k_asm); (case N => first | k_asm | exact News.nil); (case b => exact Top.nolimit (by k_asm)); (case a => rfl); (case l => rfl); (case e => exact List.cons_ne_nil _ _); (case n => exact Nat.le_of_ble_eq_true rfl))
  | (refine' kdn_int ?q ?F ?N ?b ?a ?l ?e ?n ?_; (case q => rfl); (case F => k_asm); (case N => first | k_asm | exact News.nil); (case b => exact Top.nolimit (by k_asm)); (case a => rfl); (case l => rfl); (case e => exact List.cons_ne_nil _ _); (case n => exact Nat.le_of_ble_eq_true rfl))); intro d' h' o' F' N' l1 lo' hd'; (try k_lt l1))
  k_with "eval Dict nil nil" => (k_here; k_dflt (refine' newDict_K ?k1 ?k2 (TopRead.nolimit (by k_asm)) ?_; (case k1 => k_asm); (case k2 => k_asm); k_whole); intro d' h' o' F' N' l1 lo' hs' fs' hi' fi'; (try k_lt l1); (try k_sweep))
  k_with "ktr_room" => (refine room_of ?_; (try simp +zetaDelta only [depth_under_make, depth_under_kw, depth_in1, depth_deeper]); (try dsimp only [ktrTop]); (first | exact rl1 (by assumption) (by exact rfl) | exact rl2 (by assumption) (by exact rfl) | exact rl3 (by assumption) (by exact rfl) | omega))
  k_with "ktr_enter" => (refine' code_def ?k1 ?k2 ?k3 ?k4 ?k5 ?kA ?kF ?kK ?k6 ?k7 ?k8 ?k9 ?kB ?_ ?c2 ?c3 ?c4 ?c5; (case kA => exact rfl); (case kF => exact rfl); (case kK => first | exact rfl | assumption); (case k1 => k_asm); (case k2 => k_asm); (case k3 => k_asm); (case k4 => k_asm); (case k5 => k_asm); (case k6 => k_is); (case k7 => k_is); (case k8 => ktr_room); (case k9 => first | exact BindsTo.of_eq rfl | exact binds_K (by k_in) rfl (by k_is) rfl rfl rfl); (case c5 => decide); (case kB => exact locs rfl); (case c2 => exact rfl); (case c3 => exact rfl); (case c4 => exact rfl); k_whole; intro g' L' h' FG' F' N' B' X' T'; (try dsimp only); (try k_fold); (try (refine let_enter ?_; intro M1 A1)))
  k_with "call ref" => (k_here; k_dflt (first
  | (refine wpAny_call ?_; ktr_enter)
  | (refine' call_cls0 ?k1 ?k2 ?k3 ?k4 ?k5 ?_; (case k1 => k_asm); (case k2 => k_asm); (case k3 => k_asm); (case k4 => k_is); (case k5 => k_is); k_whole; intro x' d' h' F' N' l1 l2; (try k_lt l1); (try k_lt2 l2); (try k_sweep))
  | (refine' call_cls ?k1 ?k2 ?k3 ?k4 ?k5 ?k6 ?_; (case k1 => k_asm); (case k2 => k_asm); (case k3 => k_asm); (case k4 => k_is); (case k5 => k_is); (case k6 => k_is); k_whole; intro x' d' h' F' N' l1 l2; (try k_lt l1); (try k_lt2 l2); (try k_sweep); ktr_enter)
  | (refine' call_meth ?k1 ?k2 ?_; (case k1 => k_asm); (case k2 => k_mem); k_whole; ktr_enter)))
  k_with "ktr_units" => ((try simp +zetaDelta only [units_in1, units_deeper, Around.mark_units, units_make]); (try dsimp only [ktrTop]); first | exact rl1 (by assumption) (by exact rfl) | exact rl2 (by assumption) (by exact rfl) | exact rl3 (by assumption) (by exact rfl) | omega | ((show _ < (9900 : Nat)); omega))
  k_with "call type:frozenset" => (k_here; k_dflt (refine' fz_call ?F ?N ?m ?d ?z ?_; (case F => k_asm); (case N => k_asm); (case m => k_mem); (case d => k_asm); (case z => k_asm)); intro D' h' tq' led' F' N' l1; (try k_lt l1))
  k_with "compareOp In int ref" => (k_here; k_dflt (refine' fz_in ?N ?m ?_; (case N => k_asm); (case m => k_mem)))
  k_with "call type:list" => (k_here; (with_reducible show wpAny _ _ (call (Value.type "list") [Value.ref _]) _ _ _); k_dflt (refine' list_copyK ?k1 ?k2 ?k3 ?_ ?z; (case k1 => k_asm); (case k2 => k_asm); (case k3 => exact News.isList (by k_asm) (by k_mem)); (case z => first | exact Nat.le_of_ble_eq_true rfl | omega); k_whole); intro D' c' h' F' N' l1; (try k_lt l1); (try k_sweep))
  k_with "k_mem" => (with_reducible kcf_m)
  k_with "k_get" => (with_reducible assumption)
  k_with "call builtin:len" => (k_here; (with_reducible show wpAny _ _ (call (Value.builtin "len") [Value.ref _]) _ _ _); k_dflt (refine' len_arr ?N ?m ?z ?_; (case N => k_asm); (case m => k_mem); (case z => (simp only [Array.size_push, List.size_toArray]; omega))))
  k_with "kcf_m" => (refine via (by assumption) ?_; kcf_m)
  k_with "subscriptTail Name Slice ref ref" => (k_here; (with_reducible show wpAny _ _ (subscriptTail _ _ (Value.ref _) (Value.ref _)) _ _ _); k_dflt (first
  | (refine' tup_head ?F ?N ?m ?h0 ?b ?e ?_ ?s ?t ?z; (case F => k_asm); (case N => k_asm); (case m => k_mem); (case h0 => decide); (case b => first | exact Nat.le_of_ble_eq_true rfl | (simp only [List.length_cons]; omega)); (case e => first | exact tk1 | exact dp1 | exact dp2 | exact rfl); (case s => with_unfolding_all rfl); (case t => kmk_pure); (case z => first | exact Nat.le_of_ble_eq_true rfl | (simp only [List.length_cons]; omega)))
  | (refine' tup_rest ?F ?N ?m ?h0 ?b ?e ?_ ?s ?t ?z; (case F => k_asm); (case N => k_asm); (case m => k_mem); (case h0 => decide); (case b => first | exact Nat.le_of_ble_eq_true rfl | (simp only [List.length_cons]; omega)); (case e => first | exact tk1 | exact dp1 | exact dp2 | exact rfl); (case s => with_unfolding_all rfl); (case t => kmk_pure); (case z => first | exact Nat.le_of_ble_eq_true rfl | (simp only [List.length_cons]; omega)))); intro D' h' F' N' l1; (try k_lt l1); (try k_sweep))
  k_with "subscriptTail" => (k_here; (with_reducible show wpAny _ _ (subscriptTail _ _ (Value.ref _) (Value.int _ _)) _ _ _); k_dflt (first
  | (refine' list_tailL ?N ?m ?a ?b ?x ?_ ?s; (case N => k_asm); (case m => k_mem); (case a => decide); (case b => decide); (case x => first | exact rfl | assumption); (case s => with_unfolding_all rfl))
  | (refine' dict_tail (knd := intKind _ _) ?N ?m ?d ?k ?v ?_ ?s; (case N => k_asm); (case m => k_mem); (case d => with_reducible assumption); (case k => exact intKind_is _ _ _ _); (case v => first | with_reducible assumption | exact rfl); (case s => with_unfolding_all rfl))))
  k_with "subscriptTail" => (k_here; (with_reducible show wpAny _ _ (subscriptTail _ _ (Value.ref _) (Value.str _ _)) _ _ _); k_dflt
  (refine' dict_tail (knd := strKind _ _) ?N ?m ?d ?k ?v ?_ ?s; (case N => k_asm); (case m => k_mem); (case d => with_reducible assumption); (case k => exact strKind_is _ _ _ _); (case v => exact rfl); (case s => with_unfolding_all rfl)))
  k_with "getItem ref str" => (k_here; k_dflt
  (refine' dict_get (knd := strKind _ _) ?N ?m ?d ?k ?v ?_; (case N => k_asm); (case m => k_mem); (case d => with_reducible assumption); (case k => exact strKind_is _ _ _ _); (case v => exact rfl)))
  k_with "compareOp In int ref" => (k_here; k_dflt (refine' fz_in' ?N ?m ?b ?_; (case N => k_asm); (case m => k_mem); (case b => first | assumption | exact rfl)))
  k_with "binaryOp Add ref ref" => (k_here; k_dflt (refine' tup_add ?F ?N ?a ?b ?v ?w ?z ?e ?_; (case F => k_asm); (case N => k_asm); (case a => k_mem); (case b => k_mem); (case v => first | exact List.cons_ne_nil _ _ | assumption); (case w => first | exact List.cons_ne_nil _ _ | assumption); (case z => first | exact Nat.le_of_ble_eq_true rfl | (simp only [List.length_cons, List.length_nil]; omega)); (case e => first | exact ap1 | exact ap2 | exact rfl)); intro D' h' F' N' l1; (try k_lt l1); (try k_sweep))
  k_with "newTuple" => (k_here; k_dflt (refine' kup_newTuple ?F ?N ?_ ?z; (case F => k_asm); (case N => k_asm); (case z => kmk_size)); intro D' h' F' N' l1; (try k_sweep))
  k_with "k_offL" => (first | omega | ((try simp only [List.length_append, List.length_cons, List.length_nil]); omega))
  k_with "subscriptTail" => (k_here; (with_reducible show wpAny _ _ (subscriptTail _ _ (Value.ref _) (Value.int 0 _)) _ _ _); k_dflt (refine' tin_sub0 ?F ?X ?N ?T ?_ ?s; (case F => k_asm); (case X => k_asm); (case N => k_asm); (case T => (refine TIn.up (by assumption) ?_; kat_tups)); (case s => with_unfolding_all rfl)); intro t0')
  k_with "subscriptTail" => (k_here; (with_reducible show wpAny _ _ (subscriptTail _ _ (Value.ref _) (Value.int _ _)) _ _ _); k_dflt (refine' tup_item ?N ?m ?a ?b ?x ?_ ?s; (case N => k_asm); (case m => k_mem); (case a => decide); (case b => decide); (case x => exact rfl); (case s => with_unfolding_all rfl)))
  k_with "binaryOp Add ref ref" => (k_here; k_dflt (refine' snoc_add ?F ?N ?V ?a ?b ?z ?_; (case F => k_asm); (case N => k_asm); (case V => ktu_offI); (case a => k_mem); (case b => k_mem); (case z => first | exact Nat.le_of_ble_eq_true rfl | exact steps_small (by assumption) (by k_offL))); intro D' h' rest9 news9 F' N' up9 V9 m9 sub9; (try k_sweep))
  k_with "call ref" => (k_here; (with_reducible show wpAny _ _ (call (Value.ref 35) _) _ _ _); k_dflt (refine' runs_use (c_bk_slice ?S ?sub ?hm ?hT) ?B ?F ?X ?N ?T ?k ?d ?u ?_; (case B => k_asm); (case F => k_asm); (case X => k_asm); (case N => k_asm);(case S => assumption); (case sub => assumption); (case hm => k_mem); (case hT => kqd_in); (case T => k_asm); (case k => exact rfl); (case d => ((try simp +zetaDelta only [depth_under_make, depth_under_kw, depth_in1, depth_deeper]); (try dsimp only [ktrTop]); (first | exact rl1 (by assumption) (by exact rfl) | exact rl2 (by assumption) (by exact rfl) | exact rl3 (by assumption) (by exact rfl) | omega))); (case u => ktr_units); intro r9 post9 h9 tk9 F' N' P9; revert P9; (refine an2 ?_); intro P9 e8; revert P9; (refine ex1 ?_); intro t9 e9; subst e9; (replace N' := newsEq N' e8); (first | clear e8 post9 | subst e8); (try dsimp only); (try k_sweep)))
  k_with "call ref" => (k_here; (with_reducible show wpAny _ _ (call (Value.ref 272) _) _ _ _); k_dflt (refine' runs_use (c_valN ?S ?V ?hv) ?B ?F ?X ?N ?T ?k ?d ?u ?_; (case B => k_asm); (case F => k_asm); (case X => k_asm); (case N => k_asm);(case V => ktu_offI); (case S => (refine SIn.mono ?_ (by assumption); kat_tups)); (case hv => (refine NumIn.mono ?_ (by assumption); kat_tups)); (case T => k_asm); (case k => exact rfl); (case d => ((try simp +zetaDelta only [depth_under_make, depth_under_kw, depth_in1, depth_deeper]); (try dsimp only [ktrTop]); (first | exact rl1 (by assumption) (by exact rfl) | exact rl2 (by assumption) (by exact rfl) | exact rl3 (by assumption) (by exact rfl) | omega))); (case u => ktr_units); intro r9 post9 h9 tk9 F' N' P9; revert P9; (refine ex1 ?_); intro rest9 P9; revert P9; (refine an3 ?_); intro up9 V9 T9; have sub9 := V9.sub; (try dsimp only); (try k_sweep)))
  k_with "call ref" => (k_here; (with_reducible show wpAny _ _ (call (Value.ref 272) _) _ _ _); k_dflt (refine' runs_use (c_valL ?S ?V ?hm ?hk) ?B ?F ?X ?N ?T ?k ?d ?u ?_; (case B => k_asm); (case F => k_asm); (case X => k_asm); (case N => k_asm);(case V => ktu_offI); (case S => (refine SIn.mono ?_ (by assumption); kat_tups)); (case hm => k_mem); (case hk => first | exact Or.inl rfl | exact Or.inr (Or.inl rfl) | exact Or.inr (Or.inr (Or.inl rfl)) | exact Or.inr (Or.inr (Or.inr rfl))); (case T => k_asm); (case k => exact rfl); (case d => ((try simp +zetaDelta only [depth_under_make, depth_under_kw, depth_in1, depth_deeper]); (try dsimp only [ktrTop]); (first | exact rl1 (by assumption) (by exact rfl) | exact rl2 (by assumption) (by exact rfl) | exact rl3 (by assumption) (by exact rfl) | omega))); (case u => ktr_units); intro r9 post9 h9 tk9 F' N' P9; revert P9; (refine ex1 ?_); intro rest9 P9; revert P9; (refine an3 ?_); intro up9 V9 T9; have sub9 := V9.sub; (try dsimp only); (try k_sweep)))
  k_with "call ref" => (k_here; (with_reducible show wpAny _ _ (call (Value.ref 258) _) _ _ _); k_dflt (refine' runs_use (c_keptN ?S ?V ?hz ?hy ?hT) ?B ?F ?X ?N ?T ?k ?d ?u ?_; (case B => k_asm); (case F => k_asm); (case X => k_asm); (case N => k_asm);(case V => ktu_offI); (case S => (refine SIn.mono ?_ (by assumption); kat_tups)); (case hT => (refine TIn.up (by assumption) ?_; kat_tups));(case hz => k_offL); (case hy => k_offL); (case T => k_asm); (case k => exact rfl); (case d => ((try simp +zetaDelta only [depth_under_make, depth_under_kw, depth_in1, depth_deeper]); (try dsimp only [ktrTop]); (first | exact rl1 (by assumption) (by exact rfl) | exact rl2 (by assumption) (by exact rfl) | exact rl3 (by assumption) (by exact rfl) | omega))); (case u => ktr_units); intro r9 post9 h9 tk9 F' N' P9; revert P9; (refine ex1 ?_); intro rest9 P9; revert P9; (refine an3 ?_); intro up9 V9 T9; have sub9 := V9.sub; (try dsimp only); (try k_sweep)))
  k_with "call ref" => (k_here; (with_reducible show wpAny _ _ (call (Value.ref 258) _) _ _ _); k_dflt (refine' runs_use (c_keptR1 ?S ?V ?hz ?hy ?hT) ?B ?F ?X ?N ?T ?k ?d ?u ?_; (case B => k_asm); (case F => k_asm); (case X => k_asm); (case N => k_asm);(case V => ktu_offI); (case S => (refine SIn.mono ?_ (by assumption); kat_tups)); (case hT => (refine TIn.up (by assumption) ?_; kat_tups));(case hz => k_offL); (case hy => k_offL); (case T => k_asm); (case k => exact rfl); (case d => ((try simp +zetaDelta only [depth_under_make, depth_under_kw, depth_in1, depth_deeper]); (try dsimp only [ktrTop]); (first | exact rl1 (by assumption) (by exact rfl) | exact rl2 (by assumption) (by exact rfl) | exact rl3 (by assumption) (by exact rfl) | omega))); (case u => ktr_units); intro r9 post9 h9 tk9 F' N' P9; revert P9; (refine ex1 ?_); intro rest9 P9; revert P9; (refine an3 ?_); intro up9 V9 T9; have sub9 := V9.sub; (try dsimp only); (try k_sweep)))
  k_with "eval Call" => (k_fold; (try (refine tok_gen ?_; intro tkz)))
  k_with "eval Call Attribute" => (k_fold; (try (refine tok_gen ?_; intro tkz)))
  k_with "eval Tuple" => (k_fold; (try (refine tok_gen ?_; intro tkz)))
  trivial
theorem wy_sl {w : World} {rest : List (Addr × Obj)} {st lr li e : Addr} (S' : SIn w rest st lr li) {t t' t1 t2 t3 : Tok} {v u : Value} {τ : Ty} {k : Num} {b : Addr} (hm : (e, tupO [sv "index" t, v, .int 0 t', .ref b, u]) ∈ rest) (hb : (b, tupO [sv "local" t1, .ref 430, .int 0 t2, .int 3 t3]) ∈ rest) (hk : NumIn rest u k) (hv : TyIn rest v τ) : WayC w st lr li rest (.ref e) (.sl τ k) := by
  intro rest' pre n ds up0 V hz hy
  have S := S'.mono up0
  simp only [Pl.size] at hz hy
  have S0 := S
  obtain ⟨m1, m2, m3, m4, m5, m6, m7, m8, m9, m10, m11, m12, m13, m14, m15, i1, i2, g1, g2, g3, g4, g5, g6, g7, n1, n2, n3, n4, n5, n6, n7, n8, n9, x1, x2, x3, x4, x5⟩ := S
  have sub0 := V.sub
  obtain ⟨ka, te, tt, xs, hka, hkm⟩ := hk.head
  subst hka
  have hkr := num_rows_le k (n + 1)
  unfold Runs
  k_fill
  intro p loose mean mg mb dp un gd cn cs a ccd cl outer A₀ base h₀ L m s Q E B F X N T hk hd hu ret
  simp only [Pl.size] at hd hu
  k_steps
  refine' ret _ _ _ _ ?F ?N (wpost ?V ?hn ?hd ?up (WayIn.mk ?a ?b ?c ?d))
  case F => k_asm
  case N => k_asm
  case V => ktu_offI
  case hn => first | rfl | (simp only [Pl.way, List.length_append, List.length_cons]; omega)
  case hd => first | rfl | (simp [Pl.way]; done)
  case up => kat_tups
  case a => k_mem
  case b => k_mem
  case c => kqd_in
  case d => (try simp only [Pl.way]); kqd_all
theorem w_C18_0 : True := by
  w_top off
  k_with_none
  k_with "k_all" => (assumption)
  k_with "eval Dict" => (k_here; k_dflt (first
  | (refine' kdn_str ?q ?F ?N ?b ?a ?l ?e ?n ?_; (case q => rfl); (case F => k_asm); (case N => first | k_asm | exact News.nil); (case b => exact Top.nolimit (by k_asm)); (case a => rfl); (case l => rfl); (case e => exact List.cons_ne_nil _ _); (case n => exact Nat.le_of_ble_eq_true rfl))
  | (refine' kdn_int ?q ?F ?N ?b ?a ?l ?e ?n ?_; (case q => rfl); (case F => k_asm); (case N => first | k_asm | exact News.nil); (case b => exact Top.nolimit (by k_asm)); (case a => rfl); (case l => rfl); (case e => exact List.cons_ne_nil _ _); (case n => exact Nat.le_of_ble_eq_true rfl))); intro d' h' o' F' N' l1 lo' hd'; (try k_lt l1))
  k_with "eval Dict nil nil" => (k_here; k_dflt (refine' newDict_K ?k1 ?k2 (TopRead.nolimit (by k_asm)) ?_; (case k1 => k_asm); (case k2 => k_asm); k_whole); intro d' h' o' F' N' l1 lo' hs' fs' hi' fi'; (try k_lt l1); (try k_sweep))
  k_with "ktr_room" => (refine room_of ?_; (try simp +zetaDelta only [depth_under_make, depth_under_kw, depth_in1, depth_deeper]); (try dsimp only [ktrTop]); (first | exact rl1 (by assumption) (by exact rfl) | exact rl2 (by assumption) (by exact rfl) | exact rl3 (by assumption) (by exact rfl) | omega))
  k_with "ktr_enter" => (refine' code_def ?k1 ?k2 ?k3 ?k4 ?k5 ?kA ?kF ?kK ?k6 ?k7 ?k8 ?k9 ?kB ?_ ?c2 ?c3 ?c4 ?c5; (case kA => exact rfl); (case kF => exact rfl); (case kK => first | exact rfl | assumption); (case k1 => k_asm); (case k2 => k_asm); (case k3 => k_asm); (case k4 => k_asm); (case k5 => k_asm); (case k6 => k_is); (case k7 => k_is); (case k8 => ktr_room); (case k9 => first | exact BindsTo.of_eq rfl | exact binds_K (by k_in) rfl (by k_is) rfl rfl rfl); (case c5 => decide); (case kB => exact locs rfl); (case c2 => exact rfl); (case c3 => exact rfl); (case c4 => exact rfl); k_whole; intro g' L' h' FG' F' N' B' X' T'; (try dsimp only); (try k_fold); (try (refine let_enter ?_; intro M1 A1)))
  k_with "call ref" => (k_here; k_dflt (first
  | (refine wpAny_call ?_; ktr_enter)
  | (refine' call_cls0 ?k1 ?k2 ?k3 ?k4 ?k5 ?_; (case k1 => k_asm); (case k2 => k_asm); (case k3 => k_asm); (case k4 => k_is); (case k5 => k_is); k_whole; intro x' d' h' F' N' l1 l2; (try k_lt l1); (try k_lt2 l2); (try k_sweep))
  | (refine' call_cls ?k1 ?k2 ?k3 ?k4 ?k5 ?k6 ?_; (case k1 => k_asm); (case k2 => k_asm); (case k3 => k_asm); (case k4 => k_is); (case k5 => k_is); (case k6 => k_is); k_whole; intro x' d' h' F' N' l1 l2; (try k_lt l1); (try k_lt2 l2); (try k_sweep); ktr_enter)
  | (refine' call_meth ?k1 ?k2 ?_; (case k1 => k_asm); (case k2 => k_mem); k_whole; ktr_enter)))
  k_with "ktr_units" => ((try simp +zetaDelta only [units_in1, units_deeper, Around.mark_units, units_make]); (try dsimp only [ktrTop]); first | exact rl1 (by assumption) (by exact rfl) | exact rl2 (by assumption) (by exact rfl) | exact rl3 (by assumption) (by exact rfl) | omega | ((show _ < (9900 : Nat)); omega))
  k_with "call type:frozenset" => (k_here; k_dflt (refine' fz_call ?F ?N ?m ?d ?z ?_; (case F => k_asm); (case N => k_asm); (case m => k_mem); (case d => k_asm); (case z => k_asm)); intro D' h' tq' led' F' N' l1; (try k_lt l1))
  k_with "compareOp In int ref" => (k_here; k_dflt (refine' fz_in ?N ?m ?_; (case N => k_asm); (case m => k_mem)))
  k_with "call type:list" => (k_here; (with_reducible show wpAny _ _ (call (Value.type "list") [Value.ref _]) _ _ _); k_dflt (refine' list_copyK ?k1 ?k2 ?k3 ?_ ?z; (case k1 => k_asm); (case k2 => k_asm); (case k3 => exact News.isList (by k_asm) (by k_mem)); (case z => first | exact Nat.le_of_ble_eq_true rfl | omega); k_whole); intro D' c' h' F' N' l1; (try k_lt l1); (try k_sweep))
  k_with "k_mem" => (with_reducible kcf_m)
  k_with "k_get" => (with_reducible assumption)
  k_with "call builtin:len" => (k_here; (with_reducible show wpAny _ _ (call (Value.builtin "len") [Value.ref _]) _ _ _); k_dflt (refine' len_arr ?N ?m ?z ?_; (case N => k_asm); (case m => k_mem); (case z => (simp only [Array.size_push, List.size_toArray]; omega))))
  k_with "kcf_m" => (refine via (by assumption) ?_; kcf_m)
  k_with "subscriptTail Name Slice ref ref" => (k_here; (with_reducible show wpAny _ _ (subscriptTail _ _ (Value.ref _) (Value.ref _)) _ _ _); k_dflt (first
  | (refine' tup_head ?F ?N ?m ?h0 ?b ?e ?_ ?s ?t ?z; (case F => k_asm); (case N => k_asm); (case m => k_mem); (case h0 => decide); (case b => first | exact Nat.le_of_ble_eq_true rfl | (simp only [List.length_cons]; omega)); (case e => first | exact tk1 | exact dp1 | exact dp2 | exact rfl); (case s => with_unfolding_all rfl); (case t => kmk_pure); (case z => first | exact Nat.le_of_ble_eq_true rfl | (simp only [List.length_cons]; omega)))
  | (refine' tup_rest ?F ?N ?m ?h0 ?b ?e ?_ ?s ?t ?z; (case F => k_asm); (case N => k_asm); (case m => k_mem); (case h0 => decide); (case b => first | exact Nat.le_of_ble_eq_true rfl | (simp only [List.length_cons]; omega)); (case e => first | exact tk1 | exact dp1 | exact dp2 | exact rfl); (case s => with_unfolding_all rfl); (case t => kmk_pure); (case z => first | exact Nat.le_of_ble_eq_true rfl | (simp only [List.length_cons]; omega)))); intro D' h' F' N' l1; (try k_lt l1); (try k_sweep))
  k_with "subscriptTail" => (k_here; (with_reducible show wpAny _ _ (subscriptTail _ _ (Value.ref _) (Value.int _ _)) _ _ _); k_dflt (first
  | (refine' list_tailL ?N ?m ?a ?b ?x ?_ ?s; (case N => k_asm); (case m => k_mem); (case a => decide); (case b => decide); (case x => first | exact rfl | assumption); (case s => with_unfolding_all rfl))
  | (refine' dict_tail (knd := intKind _ _) ?N ?m ?d ?k ?v ?_ ?s; (case N => k_asm); (case m => k_mem); (case d => with_reducible assumption); (case k => exact intKind_is _ _ _ _); (case v => first | with_reducible assumption | exact rfl); (case s => with_unfolding_all rfl))))
  k_with "subscriptTail" => (k_here; (with_reducible show wpAny _ _ (subscriptTail _ _ (Value.ref _) (Value.str _ _)) _ _ _); k_dflt
  (refine' dict_tail (knd := strKind _ _) ?N ?m ?d ?k ?v ?_ ?s; (case N => k_asm); (case m => k_mem); (case d => with_reducible assumption); (case k => exact strKind_is _ _ _ _); (case v => exact rfl); (case s => with_unfolding_all rfl)))
  k_with "getItem ref str" => (k_here; k_dflt
  (refine' dict_get (knd := strKind _ _) ?N ?m ?d ?k ?v ?_; (case N => k_asm); (case m => k_mem); (case d => with_reducible assumption); (case k => exact strKind_is _ _ _ _); (case v => exact rfl)))
  k_with "compareOp In int ref" => (k_here; k_dflt (refine' fz_in' ?N ?m ?b ?_; (case N => k_asm); (case m => k_mem); (case b => first | assumption | exact rfl)))
  k_with "binaryOp Add ref ref" => (k_here; k_dflt (refine' tup_add ?F ?N ?a ?b ?v ?w ?z ?e ?_; (case F => k_asm); (case N => k_asm); (case a => k_mem); (case b => k_mem); (case v => first | exact List.cons_ne_nil _ _ | assumption); (case w => first | exact List.cons_ne_nil _ _ | assumption); (case z => first | exact Nat.le_of_ble_eq_true rfl | (simp only [List.length_cons, List.length_nil]; omega)); (case e => first | exact ap1 | exact ap2 | exact rfl)); intro D' h' F' N' l1; (try k_lt l1); (try k_sweep))
  k_with "newTuple" => (k_here; k_dflt (refine' kup_newTuple ?F ?N ?_ ?z; (case F => k_asm); (case N => k_asm); (case z => kmk_size)); intro D' h' F' N' l1; (try k_sweep))
  k_with "k_offL" => (first | omega | ((try simp only [List.length_append, List.length_cons, List.length_nil]); omega))
  k_with "subscriptTail" => (k_here; (with_reducible show wpAny _ _ (subscriptTail _ _ (Value.ref _) (Value.int 0 _)) _ _ _); k_dflt (refine' tin_sub0 ?F ?X ?N ?T ?_ ?s; (case F => k_asm); (case X => k_asm); (case N => k_asm); (case T => (refine TIn.up (by assumption) ?_; kat_tups)); (case s => with_unfolding_all rfl)); intro t0')
  k_with "subscriptTail" => (k_here; (with_reducible show wpAny _ _ (subscriptTail _ _ (Value.ref _) (Value.int _ _)) _ _ _); k_dflt (refine' tup_item ?N ?m ?a ?b ?x ?_ ?s; (case N => k_asm); (case m => k_mem); (case a => decide); (case b => decide); (case x => exact rfl); (case s => with_unfolding_all rfl)))
  k_with "binaryOp Add ref ref" => (k_here; k_dflt (refine' snoc_add ?F ?N ?V ?a ?b ?z ?_; (case F => k_asm); (case N => k_asm); (case V => ktu_offI); (case a => k_mem); (case b => k_mem); (case z => first | exact Nat.le_of_ble_eq_true rfl | exact steps_small (by assumption) (by k_offL))); intro D' h' rest9 news9 F' N' up9 V9 m9 sub9; (try k_sweep))
  k_with "call ref" => (k_here; (with_reducible show wpAny _ _ (call (Value.ref 35) _) _ _ _); k_dflt (refine' runs_use (c_bk_array ?S ?sub ?hm ?hT) ?B ?F ?X ?N ?T ?k ?d ?u ?_; (case B => k_asm); (case F => k_asm); (case X => k_asm); (case N => k_asm);(case S => assumption); (case sub => assumption); (case hm => k_mem); (case hT => kqd_in); (case T => k_asm); (case k => exact rfl); (case d => ((try simp +zetaDelta only [depth_under_make, depth_under_kw, depth_in1, depth_deeper]); (try dsimp only [ktrTop]); (first | exact rl1 (by assumption) (by exact rfl) | exact rl2 (by assumption) (by exact rfl) | exact rl3 (by assumption) (by exact rfl) | omega))); (case u => ktr_units); intro r9 post9 h9 tk9 F' N' P9; revert P9; (refine an2 ?_); intro P9 e8; revert P9; (refine ex1 ?_); intro t9 e9; subst e9; (replace N' := newsEq N' e8); (first | clear e8 post9 | subst e8); (try dsimp only); (try k_sweep)))
  k_with "call ref" => (k_here; (with_reducible show wpAny _ _ (call (Value.ref 272) _) _ _ _); k_dflt (refine' runs_use (c_valN ?S ?V ?hv) ?B ?F ?X ?N ?T ?k ?d ?u ?_; (case B => k_asm); (case F => k_asm); (case X => k_asm); (case N => k_asm);(case V => ktu_offI); (case S => (refine SIn.mono ?_ (by assumption); kat_tups)); (case hv => (refine NumIn.mono ?_ (by assumption); kat_tups)); (case T => k_asm); (case k => exact rfl); (case d => ((try simp +zetaDelta only [depth_under_make, depth_under_kw, depth_in1, depth_deeper]); (try dsimp only [ktrTop]); (first | exact rl1 (by assumption) (by exact rfl) | exact rl2 (by assumption) (by exact rfl) | exact rl3 (by assumption) (by exact rfl) | omega))); (case u => ktr_units); intro r9 post9 h9 tk9 F' N' P9; revert P9; (refine ex1 ?_); intro rest9 P9; revert P9; (refine an3 ?_); intro up9 V9 T9; have sub9 := V9.sub; (try dsimp only); (try k_sweep)))
  k_with "call ref" => (k_here; (with_reducible show wpAny _ _ (call (Value.ref 258) _) _ _ _); k_dflt (refine' runs_use (c_keptN ?S ?V ?hz ?hy ?hT) ?B ?F ?X ?N ?T ?k ?d ?u ?_; (case B => k_asm); (case F => k_asm); (case X => k_asm); (case N => k_asm);(case V => ktu_offI); (case S => (refine SIn.mono ?_ (by assumption); kat_tups)); (case hT => (refine TIn.up (by assumption) ?_; kat_tups));(case hz => k_offL); (case hy => k_offL); (case T => k_asm); (case k => exact rfl); (case d => ((try simp +zetaDelta only [depth_under_make, depth_under_kw, depth_in1, depth_deeper]); (try dsimp only [ktrTop]); (first | exact rl1 (by assumption) (by exact rfl) | exact rl2 (by assumption) (by exact rfl) | exact rl3 (by assumption) (by exact rfl) | omega))); (case u => ktr_units); intro r9 post9 h9 tk9 F' N' P9; revert P9; (refine ex1 ?_); intro rest9 P9; revert P9; (refine an3 ?_); intro up9 V9 T9; have sub9 := V9.sub; (try dsimp only); (try k_sweep)))
  k_with "call ref" => (k_here; (with_reducible show wpAny _ _ (call (Value.ref 56) _) _ _ _); k_dflt (refine' runs_use (way_use ?h ?up ?V ?hz ?hy) ?B ?F ?X ?N ?T ?k ?d ?u ?_; (case B => k_asm); (case F => k_asm); (case X => k_asm); (case N => k_asm);(case V => ktu_offI); (case h => assumption); (case up => kat_tups);(case hz => k_offL); (case hy => k_offL); (case T => k_asm); (case k => exact rfl); (case d => ((try simp +zetaDelta only [depth_under_make, depth_under_kw, depth_in1, depth_deeper]); (try dsimp only [ktrTop]); (first | exact rl1 (by assumption) (by exact rfl) | exact rl2 (by assumption) (by exact rfl) | exact rl3 (by assumption) (by exact rfl) | omega))); (case u => ktr_units); intro r9 post9 h9 tk9 F' N' P9; revert P9; (refine ex1 ?_); intro rest9 P9; revert P9; (refine an3 ?_); intro up9 V9 W9; have sub9 := V9.sub; obtain ⟨wa9, wb9, wc9, wd9⟩ := W9; (try dsimp only); (try k_sweep)))
  k_with "eval Call" => (k_fold; (try (refine tok_gen ?_; intro tkz)))
  k_with "eval Call Attribute" => (k_fold; (try (refine tok_gen ?_; intro tkz)))
  k_with "eval Tuple" => (k_fold; (try (refine tok_gen ?_; intro tkz)))
  trivial
theorem wy_fld {w : World} {rest : List (Addr × Obj)} {st lr li e : Addr} (S' : SIn w rest st lr li) {t t' t'' : Tok} {v u : Value} {τ : Ty} {p : Pl} {f : Int} (hm : (e, tupO [sv "field" t, v, .int 0 t', u, .int f t'']) ∈ rest) (hv : TyIn rest v τ) (IH : WayC w st lr li rest u p) : WayC w st lr li rest (.ref e) (.fld τ p f) := by
  intro rest' pre n ds up0 V hz hy
  have S := S'.mono up0
  simp only [Pl.size] at hz hy
  have S0 := S
  obtain ⟨m1, m2, m3, m4, m5, m6, m7, m8, m9, m10, m11, m12, m13, m14, m15, i1, i2, g1, g2, g3, g4, g5, g6, g7, n1, n2, n3, n4, n5, n6, n7, n8, n9, x1, x2, x3, x4, x5⟩ := S
  have sub0 := V.sub
  have hwr := way_rows_le p n
  unfold Runs
  k_fill
  intro p loose mean mg mb dp un gd cn cs a ccd cl outer A₀ base h₀ L m s Q E B F X N T hk hd hu ret
  simp only [Pl.size] at hd hu
  k_steps
  refine' ret _ _ _ _ ?F ?N (wpost ?V ?hn ?hd ?up (WayIn.mk ?a ?b ?c ?d))
  case F => k_asm
  case N => k_asm
  case V => ktu_offI
  case hn => first | rfl | (simp only [Pl.way, List.length_append, List.length_cons]; omega)
  case hd => first | rfl | (simp [Pl.way]; done)
  case up => kat_tups
  case a => k_mem
  case b => k_mem
  case c => kqd_in
  case d => (try simp only [Pl.way]); kqd_all
theorem wy_idx {w : World} {rest : List (Addr × Obj)} {st lr li e : Addr} (S' : SIn w rest st lr li) {t t' tb : Tok} {tE : Str} {v y : Value} {τ : Ty} {p : Pl} {k : Num} {b ty : Addr} {bs : List Value} {ds0 : List Dat} (hm : (e, tupO [sv "index" t, v, .int 0 t', .ref b, y]) ∈ rest) (hb : (b, tupO (.str tE tb :: .ref ty :: bs)) ∈ rest) (hT : TIn (TL ++ rest) (.ref ty) (.tuple (sd "array" :: ds0))) (hk : NumIn rest y k) (hv : TyIn rest v τ) (IH : WayC w st lr li rest (.ref b) p) : WayC w st lr li rest (.ref e) (.idx τ p k) := by
  intro rest' pre n ds up0 V hz hy
  have S := S'.mono up0
  simp only [Pl.size] at hz hy
  have S0 := S
  obtain ⟨m1, m2, m3, m4, m5, m6, m7, m8, m9, m10, m11, m12, m13, m14, m15, i1, i2, g1, g2, g3, g4, g5, g6, g7, n1, n2, n3, n4, n5, n6, n7, n8, n9, x1, x2, x3, x4, x5⟩ := S
  have sub0 := V.sub
  obtain ⟨ka, te, tt, xs, hka, hkm⟩ := hk.head
  subst hka
  have hwr := way_rows_le p n
  have hkr := num_rows_le k (n + (p.way n).rows.length)
  unfold Runs
  k_fill
  intro p loose mean mg mb dp un gd cn cs a ccd cl outer A₀ base h₀ L m s Q E B F X N T hk hd hu ret
  simp only [Pl.size] at hd hu
  k_steps
  refine' ret _ _ _ _ ?F ?N (wpost ?V ?hn ?hd ?up (WayIn.mk ?a ?b ?c ?d))
  case F => k_asm
  case N => k_asm
  case V => ktu_offI
  case hn => first | rfl | (simp only [Pl.way, List.length_append, List.length_cons]; omega)
  case hd => first | rfl | (simp [Pl.way]; done)
  case up => kat_tups
  case a => k_mem
  case b => k_mem
  case c => kqd_in
  case d => (try simp only [Pl.way]); kqd_all
section
variable {prog : Program} {w : World} {A : Around} {E : Value → Shared → Prop} {s : Shared} {env : Env} {h₀ : Heap} {target : Expr} {body : List Stmt} {Q : Flow → Shared → Prop}
theorem items_inv {I : Addr} {keep : List (Addr × Obj)} (J : List Value → (Str → Option Value) → List (Addr × Obj) → Prop)
    (turn : ∀ v r m news, J (v :: r) m news → ∀ h tk, Fr h₀ env.locals h m → ∀ o : Obj, o.cls = .type "tuple_iterator" → News h₀ env.locals h ((I, o) :: news) →
      wpAny (model prog w) A (assign target env v) (fun _ s₂ => wpAny (model prog w) A (execs body env) (UnrPostW h₀ env.locals { s with heap := h, toks := tk } [(I, o)] (fun m' n' => SubL keep n' ∧ J r m' n') Q) E s₂) E { s with heap := h, toks := tk })
    (done : ∀ m news, J [] m news → ∀ h tk, Fr h₀ env.locals h m → News h₀ env.locals h news → Q .next { s with heap := h, toks := tk }) :
    ∀ vs m news, J vs m news → ItemsRest prog w A E h₀ env target body Q s [(I, "tuple_iterator")] keep (vs.map .val) m news
  | [], m, news, h => ItemsRest.zero (done m news h)
  | v :: r, m, news, h => ItemsRest.val fun hh tk F => AllObj.cons fun o hc => AllObj.nil fun N => by
    refine wpAny_mono (turn v r m news h hh tk F o hc (by simpa using N)) (fun _ s₂ h₂ => wpAny_mono h₂ (fun f s₃ p => ?_) fun _ _ e => e) fun _ _ e => e
    have fin : ∀ s₃, UnrEndW h₀ env.locals { s with heap := hh, toks := tk } [(I, o)] (fun m' n' => SubL keep n' ∧ J r m' n') s₃ → UnrEndW h₀ env.locals { s with heap := hh, toks := tk } [(I, o)] (fun m' n' => SubL keep n' ∧ ItemsRest prog w A E h₀ env target body Q s [(I, "tuple_iterator")] keep (r.map .val) m' n') s₃ := by
      rintro s₃ ⟨h', tk', m', news', e, F', N', off, k, j⟩
      exact ⟨h', tk', m', news', e, F', N', off, k, items_inv J turn done r m' news' j⟩
    cases f with
    | ret v => exact p
    | brk => exact p
    | next => exact fin _ p
    | cont => exact fin _ p
end
theorem ti_list : Value.type "tuple_iterator" ≠ .type "list" := by decide
theorem list_ti : Value.type "list" ≠ .type "tuple_iterator" := by decide
theorem tup_ti : Value.type "tuple" ≠ .type "tuple_iterator" := by decide
theorem Lv.weak {lr li : Addr} {n : Nat} {ds : List Dat} {rest pre pre' : List (Addr × Obj)} (h : Lv lr li n ds rest pre) (hs : ∀ p ∈ pre, p ∈ pre') : Lv lr li n ds rest pre' := by
  obtain ⟨a, b, c, d, e, f⟩ := h
  exact .mk (fun p hp => hs p (a p hp)) b c d e f
theorem news_ne {h₀ h : Heap} {L : Addr} {news : List (Addr × Obj)} {a b : Addr} {o o' : Obj} (N : News h₀ L h news) (ha : (a, o) ∈ news) (hb : (b, o') ∈ news) (hc : o.cls ≠ o'.cls) : a ≠ b := by
  intro e
  subst e
  have h1 := (N _ ha).1
  have h2 := (N _ hb).1
  rw [h1] at h2
  exact hc (congrArg Obj.cls (Option.some.inj h2))
theorem Lv.iter {h₀ h : Heap} {L I lr li : Addr} {o : Obj} {n : Nat} {ds : List Dat} {rest pre : List (Addr × Obj)} (V : Lv lr li n ds rest pre) (hc : o.cls = .type "tuple_iterator") (N : News h₀ L h ((I, o) :: pre)) : Lv lr li n ds ((I, o) :: rest) ((I, o) :: pre) := by
  obtain ⟨a, b, c, d, e, f⟩ := V
  have n1 : I ≠ lr := news_ne N (.head _) (.tail _ (a _ (.head _))) (by rw [hc]; exact ti_list)
  have n2 : I ≠ li := news_ne N (.head _) (.tail _ (a _ (.tail _ (.head _)))) (by rw [hc]; exact ti_list)
  exact .mk (List.forall_mem_cons.mpr ⟨.tail _ (a _ (.head _)), List.forall_mem_cons.mpr ⟨.tail _ (a _ (.tail _ (.head _))), List.forall_mem_cons.mpr ⟨.head _, fun p hp => .tail _ (a p (.tail _ (.tail _ hp)))⟩⟩⟩) b (c.up fun _ x => .tail _ x)
    (List.forall_mem_cons.mpr ⟨n1, d⟩) (List.forall_mem_cons.mpr ⟨n2, e⟩) f
def offI (I : Addr) (rest : List (Addr × Obj)) : List (Addr × Obj) := rest.filter fun p => !(p.1 == I)
theorem offI_mem {I : Addr} {rest : List (Addr × Obj)} {p : Addr × Obj} : p ∈ offI I rest ↔ p ∈ rest ∧ p.1 ≠ I := by
  unfold offI
  rw [List.mem_filter]
  simp
theorem offI_tup {h₀ h : Heap} {L I : Addr} {o : Obj} {rest led : List (Addr × Obj)} (N : News h₀ L h led) (hs : ∀ p ∈ rest, p ∈ led) (hI : (I, o) ∈ led) (hc : o.cls = .type "tuple_iterator") : ∀ a vs, (a, tupO vs) ∈ rest → (a, tupO vs) ∈ offI I rest := fun a vs hm =>
  offI_mem.mpr ⟨hm, news_ne N (hs _ hm) hI (by rw [hc]; exact tup_ti)⟩
theorem Lv.off {h₀ h : Heap} {L I lr li : Addr} {o : Obj} {n : Nat} {ds : List Dat} {rest pre : List (Addr × Obj)} (V : Lv lr li n ds rest pre) (hc : o.cls = .type "tuple_iterator") (N : News h₀ L h pre) (hI : (I, o) ∈ pre) :
    ∃ pre', (∀ p ∈ pre', p ∈ pre) ∧ (∀ p ∈ pre', p.1 ≠ I) ∧ Lv lr li n ds (offI I rest) pre' := by
  have hsub := V.sub
  obtain ⟨a, b, c, d, e, f⟩ := V
  rename_i regs rows kr kl
  have n1 : lr ≠ I := news_ne N (a _ (.head _)) hI (by rw [hc]; exact list_ti)
  have n2 : li ≠ I := news_ne N (a _ (.tail _ (.head _))) hI (by rw [hc]; exact list_ti)
  refine ⟨(lr, listOf regs.toArray kr) :: (li, listOf rows.toArray kl) :: offI I rest, ?_, ?_, .mk (fun _ hp => hp) b (c.upT (offI_tup N hsub hI hc)) (fun p hp => d p (offI_mem.mp hp).1) (fun p hp => e p (offI_mem.mp hp).1) f⟩
  · exact List.forall_mem_cons.mpr ⟨a _ (.head _), List.forall_mem_cons.mpr ⟨a _ (.tail _ (.head _)), fun p hp => hsub p (offI_mem.mp hp).1⟩⟩
  · exact List.forall_mem_cons.mpr ⟨n1, List.forall_mem_cons.mpr ⟨n2, fun p hp => (offI_mem.mp hp).2⟩⟩
theorem StIn.upT {led led' : List (Addr × Obj)} (hs : ∀ a vs, (a, tupO vs) ∈ led → (a, tupO vs) ∈ led') {v : Value} {s : Step} : StIn led v s → StIn led' v s
  | .mk h a b => .mk (hs _ _ h) (a.upT hs) (b.upT hs)
theorem StAll.upT {led led' : List (Addr × Obj)} (hs : ∀ a vs, (a, tupO vs) ∈ led → (a, tupO vs) ∈ led') : ∀ {vs : List Value} {ss : List Step}, StAll led vs ss → StAll led' vs ss
  | _, _, .nil => .nil
  | _, _, .cons a r => .cons (a.upT hs) (StAll.upT hs r)
abbrev nP : Str := Str.ofString "pointer"
def formM (m₀ : Str → Option Value) (pt : Value) (u1 u2 u3 : Option Value) : Str → Option Value := fun z => if z = Str.ofString "pointer" then some pt else if z = Str.ofString "reached" then u1 else if z = Str.ofString "told" then u2 else if z = Str.ofString "word" then u3 else m₀ z
theorem form_of {m' m₀ : Str → Option Value} {pt : Value} (hp : m' (Str.ofString "pointer") = some pt) (ho : ∀ z, z ≠ Str.ofString "pointer" → z ≠ Str.ofString "reached" → z ≠ Str.ofString "told" → z ≠ Str.ofString "word" → m' z = m₀ z) :
    m' = formM m₀ pt (m' (Str.ofString "reached")) (m' (Str.ofString "told")) (m' (Str.ofString "word")) := by
  funext z
  unfold formM
  by_cases a : z = Str.ofString "pointer"
  · subst a; rw [if_pos rfl, hp]
  · rw [if_neg a]
    by_cases b : z = Str.ofString "reached"
    · subst b; rw [if_pos rfl]
    · rw [if_neg b]
      by_cases c : z = Str.ofString "told"
      · subst c; rw [if_pos rfl]
      · rw [if_neg c]
        by_cases d : z = Str.ofString "word"
        · subst d; rw [if_pos rfl]
        · rw [if_neg d]; exact ho z a b c d
def AlJ (lr li : Addr) (rest : List (Addr × Obj)) (m₀ : Str → Option Value) (out : Dat) (dsO : List Dat) (nO : Nat) (r : List Value) (m : Str → Option Value) (nx : List (Addr × Obj)) : Prop :=
  ∃ pt u1 u2 u3 pd nn dd ss rest', m = formM m₀ pt u1 u2 u3 ∧ (∀ p ∈ rest, p ∈ rest') ∧ Lv lr li nn dd rest' nx ∧ TIn (TL ++ rest') pt pd ∧ StAll rest' r ss ∧ along pd nn ss = out ∧ dd ++ alongRows pd nn ss = dsO ∧ nn + ss.length = nO
theorem alongRows_len (p : Dat) (n : Nat) (ss : List Step) : (alongRows p n ss).length = ss.length := by
  induction ss generalizing p n with
  | nil => rfl
  | cons s r ih => simp [alongRows, ih]
theorem al_end {h₀ h' : Heap} {L I lr li : Addr} {o : Obj} {n : Nat} {ds : List Dat} {rest rest9 led : List (Addr × Obj)} {m' m₀ : Str → Option Value} {s₁ : Shared} {tk : Nat} {ka : Addr} {kv r : List Value} {out : Dat} {dsO : List Dat} {nO : Nat} {pt : Value} {pd : Dat} {ss : List Step}
    (F : Fr h₀ L h' m') (N : News h₀ L h' led) (V9 : Lv lr li n ds rest9 led) (hc : o.cls = .type "tuple_iterator") (hI : (I, o) ∈ rest9) (hk : (ka, tupO kv) ∈ rest9) (up : ∀ p ∈ rest, p ∈ rest9) (offr : ∀ p ∈ rest, p.1 ≠ I) (T9 : TIn (TL ++ rest9) pt pd) (St : StAll rest9 r ss)
    (hp : m' (Str.ofString "pointer") = some pt) (ho : ∀ z, z ≠ Str.ofString "pointer" → z ≠ Str.ofString "reached" → z ≠ Str.ofString "told" → z ≠ Str.ofString "word" → m' z = m₀ z) (e1 : along pd n ss = out) (e2 : ds ++ alongRows pd n ss = dsO) (e3 : n + ss.length = nO) :
    UnrEndW h₀ L s₁ [(I, o)] (fun m' n' => SubL [(ka, tupO kv)] n' ∧ AlJ lr li rest m₀ out dsO nO r m' n') { s₁ with heap := h', toks := tk } := by
  have hI' := V9.sub _ hI
  have hT := offI_tup N V9.sub hI' hc
  obtain ⟨pre', s1, s2, V'⟩ := V9.off hc N hI'
  refine ⟨h', tk, m', pre', rfl, F, ?_, ?_, ⟨V'.sub _ (hT _ _ hk), trivial⟩, pt, _, _, _, pd, n, ds, ss, _, form_of hp ho, fun p hp => offI_mem.mpr ⟨up p hp, offr p hp⟩, V', T9.upT hT, St.upT hT, e1, e2, e3⟩
  · intro p hp
    rcases List.mem_append.mp hp with hp | hp
    · rw [List.mem_singleton.mp hp]; exact N _ hI'
    · exact N _ (s1 p hp)
  · intro p hp q hq
    rw [List.mem_singleton.mp hq]
    exact s2 p hp
theorem w_C19_0 : True := by
  w_top off
  k_with_none
  k_with "k_all" => (assumption)
  k_with "eval Dict" => (k_here; k_dflt (first
  | (refine' kdn_str ?q ?F ?N ?b ?a ?l ?e ?n ?_; (case q => rfl); (case F => k_asm); (case N => first | k_asm | exact News.nil); (case b => exact Top.nolimit (by k_asm)); (case a => rfl); (case l => rfl); (case e => exact List.cons_ne_nil _ _); (case n => exact Nat.le_of_ble_eq_true rfl))
  | (refine' kdn_int ?q ?F ?N ?b ?a ?l ?e ?n ?_; (case q => rfl); (case F => k_asm); (case N => first | k_asm | exact News.nil); (case b => exact Top.nolimit (by k_asm)); (case a => rfl); (case l => rfl); (case e => exact List.cons_ne_nil _ _); (case n => exact Nat.le_of_ble_eq_true rfl))); intro d' h' o' F' N' l1 lo' hd'; (try k_lt l1))
  k_with "eval Dict nil nil" => (k_here; k_dflt (refine' newDict_K ?k1 ?k2 (TopRead.nolimit (by k_asm)) ?_; (case k1 => k_asm); (case k2 => k_asm); k_whole); intro d' h' o' F' N' l1 lo' hs' fs' hi' fi'; (try k_lt l1); (try k_sweep))
  k_with "ktr_room" => (refine room_of ?_; (try simp +zetaDelta only [depth_under_make, depth_under_kw, depth_in1, depth_deeper]); (try dsimp only [ktrTop]); (first | exact rl1 (by assumption) (by exact rfl) | exact rl2 (by assumption) (by exact rfl) | exact rl3 (by assumption) (by exact rfl) | omega))
  k_with "ktr_enter" => (refine' code_def ?k1 ?k2 ?k3 ?k4 ?k5 ?kA ?kF ?kK ?k6 ?k7 ?k8 ?k9 ?kB ?_ ?c2 ?c3 ?c4 ?c5; (case kA => exact rfl); (case kF => exact rfl); (case kK => first | exact rfl | assumption); (case k1 => k_asm); (case k2 => k_asm); (case k3 => k_asm); (case k4 => k_asm); (case k5 => k_asm); (case k6 => k_is); (case k7 => k_is); (case k8 => ktr_room); (case k9 => first | exact BindsTo.of_eq rfl | exact binds_K (by k_in) rfl (by k_is) rfl rfl rfl); (case c5 => decide); (case kB => exact locs rfl); (case c2 => exact rfl); (case c3 => exact rfl); (case c4 => exact rfl); k_whole; intro g' L' h' FG' F' N' B' X' T'; (try dsimp only); (try k_fold); (try (refine let_enter ?_; intro M1 A1)))
  k_with "call ref" => (k_here; k_dflt (first
  | (refine wpAny_call ?_; ktr_enter)
  | (refine' call_cls0 ?k1 ?k2 ?k3 ?k4 ?k5 ?_; (case k1 => k_asm); (case k2 => k_asm); (case k3 => k_asm); (case k4 => k_is); (case k5 => k_is); k_whole; intro x' d' h' F' N' l1 l2; (try k_lt l1); (try k_lt2 l2); (try k_sweep))
  | (refine' call_cls ?k1 ?k2 ?k3 ?k4 ?k5 ?k6 ?_; (case k1 => k_asm); (case k2 => k_asm); (case k3 => k_asm); (case k4 => k_is); (case k5 => k_is); (case k6 => k_is); k_whole; intro x' d' h' F' N' l1 l2; (try k_lt l1); (try k_lt2 l2); (try k_sweep); ktr_enter)
  | (refine' call_meth ?k1 ?k2 ?_; (case k1 => k_asm); (case k2 => k_mem); k_whole; ktr_enter)))
  k_with "ktr_units" => ((try simp +zetaDelta only [units_in1, units_deeper, Around.mark_units, units_make]); (try dsimp only [ktrTop]); first | exact rl1 (by assumption) (by exact rfl) | exact rl2 (by assumption) (by exact rfl) | exact rl3 (by assumption) (by exact rfl) | omega | ((show _ < (9900 : Nat)); omega))
  k_with "call type:frozenset" => (k_here; k_dflt (refine' fz_call ?F ?N ?m ?d ?z ?_; (case F => k_asm); (case N => k_asm); (case m => k_mem); (case d => k_asm); (case z => k_asm)); intro D' h' tq' led' F' N' l1; (try k_lt l1))
  k_with "compareOp In int ref" => (k_here; k_dflt (refine' fz_in ?N ?m ?_; (case N => k_asm); (case m => k_mem)))
  k_with "call type:list" => (k_here; (with_reducible show wpAny _ _ (call (Value.type "list") [Value.ref _]) _ _ _); k_dflt (refine' list_copyK ?k1 ?k2 ?k3 ?_ ?z; (case k1 => k_asm); (case k2 => k_asm); (case k3 => exact News.isList (by k_asm) (by k_mem)); (case z => first | exact Nat.le_of_ble_eq_true rfl | omega); k_whole); intro D' c' h' F' N' l1; (try k_lt l1); (try k_sweep))
  k_with "k_mem" => (with_reducible kcf_m)
  k_with "k_get" => (with_reducible assumption)
  k_with "call builtin:len" => (k_here; (with_reducible show wpAny _ _ (call (Value.builtin "len") [Value.ref _]) _ _ _); k_dflt (refine' len_arr ?N ?m ?z ?_; (case N => k_asm); (case m => k_mem); (case z => (simp only [Array.size_push, List.size_toArray]; omega))))
  k_with "kcf_m" => (refine via (by assumption) ?_; kcf_m)
  k_with "subscriptTail Name Slice ref ref" => (k_here; (with_reducible show wpAny _ _ (subscriptTail _ _ (Value.ref _) (Value.ref _)) _ _ _); k_dflt (first
  | (refine' tup_head ?F ?N ?m ?h0 ?b ?e ?_ ?s ?t ?z; (case F => k_asm); (case N => k_asm); (case m => k_mem); (case h0 => decide); (case b => first | exact Nat.le_of_ble_eq_true rfl | (simp only [List.length_cons]; omega)); (case e => first | exact tk1 | exact dp1 | exact dp2 | exact rfl); (case s => with_unfolding_all rfl); (case t => kmk_pure); (case z => first | exact Nat.le_of_ble_eq_true rfl | (simp only [List.length_cons]; omega)))
  | (refine' tup_rest ?F ?N ?m ?h0 ?b ?e ?_ ?s ?t ?z; (case F => k_asm); (case N => k_asm); (case m => k_mem); (case h0 => decide); (case b => first | exact Nat.le_of_ble_eq_true rfl | (simp only [List.length_cons]; omega)); (case e => first | exact tk1 | exact dp1 | exact dp2 | exact rfl); (case s => with_unfolding_all rfl); (case t => kmk_pure); (case z => first | exact Nat.le_of_ble_eq_true rfl | (simp only [List.length_cons]; omega)))); intro D' h' F' N' l1; (try k_lt l1); (try k_sweep))
  k_with "subscriptTail" => (k_here; (with_reducible show wpAny _ _ (subscriptTail _ _ (Value.ref _) (Value.int _ _)) _ _ _); k_dflt (first
  | (refine' list_tailL ?N ?m ?a ?b ?x ?_ ?s; (case N => k_asm); (case m => k_mem); (case a => decide); (case b => decide); (case x => first | exact rfl | assumption); (case s => with_unfolding_all rfl))
  | (refine' dict_tail (knd := intKind _ _) ?N ?m ?d ?k ?v ?_ ?s; (case N => k_asm); (case m => k_mem); (case d => with_reducible assumption); (case k => exact intKind_is _ _ _ _); (case v => first | with_reducible assumption | exact rfl); (case s => with_unfolding_all rfl))))
  k_with "subscriptTail" => (k_here; (with_reducible show wpAny _ _ (subscriptTail _ _ (Value.ref _) (Value.str _ _)) _ _ _); k_dflt
  (refine' dict_tail (knd := strKind _ _) ?N ?m ?d ?k ?v ?_ ?s; (case N => k_asm); (case m => k_mem); (case d => with_reducible assumption); (case k => exact strKind_is _ _ _ _); (case v => exact rfl); (case s => with_unfolding_all rfl)))
  k_with "getItem ref str" => (k_here; k_dflt
  (refine' dict_get (knd := strKind _ _) ?N ?m ?d ?k ?v ?_; (case N => k_asm); (case m => k_mem); (case d => with_reducible assumption); (case k => exact strKind_is _ _ _ _); (case v => exact rfl)))
  k_with "compareOp In int ref" => (k_here; k_dflt (refine' fz_in' ?N ?m ?b ?_; (case N => k_asm); (case m => k_mem); (case b => first | assumption | exact rfl)))
  k_with "binaryOp Add ref ref" => (k_here; k_dflt (refine' tup_add ?F ?N ?a ?b ?v ?w ?z ?e ?_; (case F => k_asm); (case N => k_asm); (case a => k_mem); (case b => k_mem); (case v => first | exact List.cons_ne_nil _ _ | assumption); (case w => first | exact List.cons_ne_nil _ _ | assumption); (case z => first | exact Nat.le_of_ble_eq_true rfl | (simp only [List.length_cons, List.length_nil]; omega)); (case e => first | exact ap1 | exact ap2 | exact rfl)); intro D' h' F' N' l1; (try k_lt l1); (try k_sweep))
  k_with "newTuple" => (k_here; k_dflt (refine' kup_newTuple ?F ?N ?_ ?z; (case F => k_asm); (case N => k_asm); (case z => kmk_size)); intro D' h' F' N' l1; (try k_sweep))
  k_with "k_offL" => (first | omega | ((try simp only [List.length_append, List.length_cons, List.length_nil]); omega))
  k_with "subscriptTail" => (k_here; (with_reducible show wpAny _ _ (subscriptTail _ _ (Value.ref _) (Value.int 0 _)) _ _ _); k_dflt (refine' tin_sub0 ?F ?X ?N ?T ?_ ?s; (case F => k_asm); (case X => k_asm); (case N => k_asm); (case T => (refine TIn.up (by assumption) ?_; kat_tups)); (case s => with_unfolding_all rfl)); intro t0')
  k_with "subscriptTail" => (k_here; (with_reducible show wpAny _ _ (subscriptTail _ _ (Value.ref _) (Value.int _ _)) _ _ _); k_dflt (refine' tup_item ?N ?m ?a ?b ?x ?_ ?s; (case N => k_asm); (case m => k_mem); (case a => decide); (case b => decide); (case x => exact rfl); (case s => with_unfolding_all rfl)))
  k_with "exec For Tuple Name cons nil" => (k_here; (rename Fr _ _ _ _ => lF'); (with_unfolding_all refine' For_turns lF' ?_; k_whole))
  k_with "pyIter ref" => (k_here; (with_reducible show wpAny _ _ (pyIter (Value.ref _)) (fun it s₂ => TurnsAt _ _ _ _ _ _ _ _ _ it s₂) _ _); k_dflt (refine' iter_tupTurns ?h ?F ?N ?m ?c ?d ?_; (case h => with_unfolding_all rfl); (case F => k_asm); (case N => k_asm); (case m => k_mem); (case c => exact rfl); (case d => exact rfl)); intro I1 lI)
  k_with "call ref" => (k_here; (with_reducible show wpAny _ _ (call (Value.ref 174) _) _ _ _); k_dflt (refine' runs_use (c_fresh ?S ?V ?hr ?hx ?h1 ?h2 ?hz ?hy) ?B ?F ?X ?N ?T ?k ?d ?u ?_; (case B => k_asm); (case F => k_asm); (case X => k_asm); (case N => k_asm);(case V => ktu_offI); (case S => (refine SIn.mono ?_ (by assumption); kat_tups)); (case hr => k_mem); (case hx => kqd_all); (case h1 => exact List.cons_ne_nil _ _); (case h2 => exact Nat.le_of_ble_eq_true rfl);(case hz => k_offL); (case hy => k_offL); (case T => k_asm); (case k => exact rfl); (case d => ((try simp +zetaDelta only [depth_under_make, depth_under_kw, depth_in1, depth_deeper]); (try dsimp only [ktrTop]); (first | exact rl1 (by assumption) (by exact rfl) | exact rl2 (by assumption) (by exact rfl) | exact rl3 (by assumption) (by exact rfl) | omega))); (case u => ktr_units); intro r9 post9 h9 tk9 F' N' P9; revert P9; (refine ex1 ?_); intro rest9 P9; revert P9; (refine an3 ?_); intro up9 V9 T9; have sub9 := V9.sub; (try dsimp only); (try k_sweep)))
  k_with "eval Call" => (k_fold; (try (refine tok_gen ?_; intro tkz)))
  k_with "eval Call Attribute" => (k_fold; (try (refine tok_gen ?_; intro tkz)))
  k_with "eval Tuple" => (k_fold; (try (refine tok_gen ?_; intro tkz)))
  trivial
theorem c_along {w : World} {rest pre : List (Addr × Obj)} {st lr li : Addr} {n : Nat} {ds : List Dat} {v : Value} {y : Way} (S : SIn w rest st lr li) (V : Lv lr li n ds rest pre) (W : WayIn rest y v) (hz : n + y.steps.length ≤ 750) (hy : ds.length + y.steps.length ≤ 750) :
  Runs w 63 [.ref st, v] pre 20 120 (SPost lr li rest (n + y.steps.length) (ds ++ alongRows y.begin n y.steps) (along y.begin n y.steps)) := by
  obtain ⟨wa, wb, wc, wd⟩ := W
  have hln := alongRows_len y.begin n y.steps
  have S0 := S
  obtain ⟨m1, m2, m3, m4, m5, m6, m7, m8, m9, m10, m11, m12, m13, m14, m15, i1, i2, g1, g2, g3, g4, g5, g6, g7, n1, n2, n3, n4, n5, n6, n7, n8, n9, x1, x2, x3, x4, x5⟩ := S
  have sub0 := V.sub
  unfold Runs
  k_fill
  intro p loose mean mg mb dp un gd cn cs a ccd cl outer A₀ base h₀ L m s Q E B F X N T hk hd hu ret
  k_steps
  have offr : ∀ p ∈ rest, p.1 ≠ I1 := fun p hp => Nat.ne_of_lt (lI p ((by kat_tups : ∀ p ∈ rest, p ∈ _) p hp))
  refine items_inv (AlJ lr li rest _ (along y.begin n y.steps) (ds ++ alongRows y.begin n y.steps) (n + y.steps.length)) ?turn ?done _ _ _ ⟨_, _, _, _, _, _, _, _, _, form_of (by exact rfl) (fun _ _ _ _ _ => rfl), fun _ hp => hp, by ktu_offI, wc, wd, rfl, rfl, rfl⟩
  case turn =>
    intro v r m news HJ
    revert HJ
    refine ex9 ?_
    intro pt u1 u2 u3 pd nn dd ss rest' HJ
    revert HJ
    refine an8 ?_
    intro em up V' T' St' e1 e2 e3
    subst em
    intro h tk F' o hc N'
    have hln2 := alongRows_len pd nn ss
    have hdd := congrArg List.length e2
    have Vi := V'.iter hc N'
    simp only [List.length_append] at hdd
    have subi := Vi.sub
    cases St' with
    | @cons _ _ s ss' hS hSr =>
    cases hS with
    | @mk x t vv uu _ hx ht hu =>
    obtain ⟨isF, told, ty⟩ := s
    dsimp only at ht hu
    simp only [List.length_cons] at e3 hln2
    cases isF
    · simp only [Step.word, Bool.false_eq_true, if_false] at hx
      k_steps
      (try dsimp only [UnrPostW])
      refine' al_end ?F ?N ?V hc ?hI ?hk ?up offr ?T ?St ?hp ?ho ?e1 ?e2 ?e3
      case F => k_asm
      case N => k_asm
      case V => ktu_offI
      case hI => k_mem
      case hk => k_mem
      case up => kat_tups
      case T => kqd_in
      case St => (refine StAll.mono ?_ hSr; kat_tups)
      case hp => exact rfl
      case ho => (intro z a b c d; simp [a, b, c, d, formM])
      case e1 => exact e1
      case e2 => (rw [← e2]; simp [alongRows, Step.wptr])
      case e3 => omega
    · simp only [Step.word, if_true] at hx
      k_steps
      (try dsimp only [UnrPostW])
      refine' al_end ?F ?N ?V hc ?hI ?hk ?up offr ?T ?St ?hp ?ho ?e1 ?e2 ?e3
      case F => k_asm
      case N => k_asm
      case V => ktu_offI
      case hI => k_mem
      case hk => k_mem
      case up => kat_tups
      case T => kqd_in
      case St => (refine StAll.mono ?_ hSr; kat_tups)
      case hp => exact rfl
      case ho => (intro z a b c d; simp [a, b, c, d, formM])
      case e1 => exact e1
      case e2 => (rw [← e2]; simp [alongRows, Step.wptr])
      case e3 => omega
  case done =>
    intro m news HJ
    revert HJ
    refine ex9 ?_
    intro pt u1 u2 u3 pd nn dd ss rest' HJ
    revert HJ
    refine an8 ?_
    intro em up V' T' St' e1 e2 e3
    subst em
    intro h tk F' N'
    cases St'
    have sub' := V'.sub
    k_steps
    refine' ret _ _ _ _ ?F ?N (spost ?V ?hn ?hd ?up ?T)
    case F => k_asm
    case N => k_asm
    case V => ktu_offI
    case hn => exact e3
    case hd => (rw [← e2]; simp [alongRows])
    case up => kat_tups
    case T => (rw [← e1]; kqd_in)
theorem wy_all {w : World} {rest : List (Addr × Obj)} {st lr li : Addr} (S : SIn w rest st lr li) : ∀ {v : Value} {p : Pl}, PlIn rest v p → WayC w st lr li rest v p := by
  intro v p P
  induction P with
  | v0 h _ => exact wy_v0 S h
  | w4 h _ => exact wy_w4 S h
  | glob h t => exact wy_glob S h t
  | dc h _ b c d e => exact wy_dc S h b c d e
  | dl h _ b _ => exact wy_dl S h b
  | sl h t b k => exact wy_sl S h b k t
  | fld h t r ih => exact wy_fld S h t ih
  | idx h t r e k ih =>
    obtain ⟨a, te, tt, ty, xs, hv, hm, ht⟩ := r.head
    obtain ⟨ds0, hT⟩ := arr_tin ht e
    subst hv
    exact wy_idx S h hm hT k t ih
theorem PlIn.head2 {led : List (Addr × Obj)} {u : Value} {p : Pl} (h : PlIn led u p) : ∃ a te tt ty xs, u = .ref a ∧ (a, tupO (.str te tt :: .ref ty :: xs)) ∈ led ∧ TyIn led (.ref ty) p.ty ∧ te ≠ Str.ofString "const" := by
  induction h with
  | v0 h t => obtain ⟨ty, rfl⟩ := t.isRef; exact ⟨_, _, _, _, _, rfl, h, t, by decide⟩
  | w4 h t => obtain ⟨ty, rfl⟩ := t.isRef; exact ⟨_, _, _, _, _, rfl, h, t, by decide⟩
  | glob h t => obtain ⟨ty, rfl⟩ := t.isRef; exact ⟨_, _, _, _, _, rfl, h, t, by decide⟩
  | dc h t => obtain ⟨ty, rfl⟩ := t.isRef; exact ⟨_, _, _, _, _, rfl, h, t, by decide⟩
  | dl h t => obtain ⟨ty, rfl⟩ := t.isRef; exact ⟨_, _, _, _, _, rfl, h, t, by decide⟩
  | sl h t => obtain ⟨ty, rfl⟩ := t.isRef; exact ⟨_, _, _, _, _, rfl, h, t, by decide⟩
  | fld h t => obtain ⟨ty, rfl⟩ := t.isRef; exact ⟨_, _, _, _, _, rfl, h, t, by decide⟩
  | idx h t => obtain ⟨ty, rfl⟩ := t.isRef; exact ⟨_, _, _, _, _, rfl, h, t, by decide⟩
theorem inmem_b {w : World} {st : Addr} {rest pre : List (Addr × Obj)} {v : Value} {p : Pl} {b : Bool} (h : InMemC w st rest v p) (hb : p.kept = b) (hs : ∀ x ∈ rest, x ∈ pre) : Runs w 42 [.ref st, v] pre (10 + 10 * p.size) (100 + 100 * p.size) (fun r post => r = .bool b ∧ post = pre) := hb ▸ h _ hs
def LoadC (w : World) (st lr li : Addr) (rest : List (Addr × Obj)) (v : Value) (p : Pl) : Prop := ∀ rest' pre n ds, (∀ x ∈ rest, x ∈ rest') → Lv lr li n ds rest' pre → n + 10 * p.size ≤ 600 → ds.length + 10 * p.size ≤ 600 →
  Runs w 70 [.ref st, v] pre (60 + 20 * p.size) (600 + 200 * p.size) (SPost lr li rest' (n + (p.load n).rows.length) (ds ++ (p.load n).rows) (p.load n).out)
theorem load_use {w : World} {st lr li : Addr} {rest rest' pre : List (Addr × Obj)} {v : Value} {p : Pl} {n : Nat} {ds : List Dat} (h : LoadC w st lr li rest v p) (up : ∀ x ∈ rest, x ∈ rest') (V : Lv lr li n ds rest' pre) (hz : n + 10 * p.size ≤ 600) (hy : ds.length + 10 * p.size ≤ 600) :
  Runs w 70 [.ref st, v] pre (60 + 20 * p.size) (600 + 200 * p.size) (SPost lr li rest' (n + (p.load n).rows.length) (ds ++ (p.load n).rows) (p.load n).out) := h _ _ _ _ up V hz hy
def ValC (w : World) (st lr li : Addr) (rest : List (Addr × Obj)) (v : Value) (p : Pl) : Prop := ∀ rest' pre n ds, (∀ x ∈ rest, x ∈ rest') → Lv lr li n ds rest' pre → n + 10 * p.size ≤ 600 → ds.length + 10 * p.size ≤ 600 →
  Runs w 272 [.ref st, v] pre (66 + 20 * p.size) (640 + 200 * p.size) (SPost lr li rest' (n + (p.load n).rows.length) (ds ++ (p.load n).rows) (p.load n).out)
theorem val_use {w : World} {st lr li : Addr} {rest rest' pre : List (Addr × Obj)} {v : Value} {p : Pl} {n : Nat} {ds : List Dat} (h : ValC w st lr li rest v p) (up : ∀ x ∈ rest, x ∈ rest') (V : Lv lr li n ds rest' pre) (hz : n + 10 * p.size ≤ 600) (hy : ds.length + 10 * p.size ≤ 600) :
  Runs w 272 [.ref st, v] pre (66 + 20 * p.size) (640 + 200 * p.size) (SPost lr li rest' (n + (p.load n).rows.length) (ds ++ (p.load n).rows) (p.load n).out) := h _ _ _ _ up V hz hy
theorem size_pos (p : Pl) : 1 ≤ p.size := by cases p <;> simp [Pl.size]
theorem got_len (y : Way) (n : Nat) : (y.got n).rows.length = y.rows.length + y.steps.length := by simp [Way.got, alongRows_len]
theorem load_rows_le : ∀ (p : Pl) (n : Nat), (p.load n).rows.length ≤ 4 * p.size + 1
  | .v0 _, n => by simp [Pl.load, Pl.loadK, Got.load, got_len, Pl.way, Pl.size]
  | .w4 _, n => by simp [Pl.load]
  | .glob _, n => by simp [Pl.load, Pl.loadK, Got.load, got_len, Pl.way, Pl.size]
  | .dc _, n => by simp [Pl.load, Pl.loadK, Got.load, got_len, Pl.way, Pl.size]
  | .dl _, n => by simp [Pl.load, Pl.loadK, Got.load, got_len, Pl.way, Pl.size]
  | .sl τ k, n => by
    have h1 := way_rows_le (.sl τ k) n
    have h2 := way_steps_le (.sl τ k) n
    simp only [Pl.load, Pl.loadK, Got.load, got_len, List.length_append, List.length_cons, List.length_nil, Pl.size] at *
    omega
  | .fld τ p f, n => by
    have h1 := way_rows_le (.fld τ p f) n
    have h2 := way_steps_le (.fld τ p f) n
    have ih := load_rows_le p n
    have := size_pos p
    unfold Pl.load
    split
    · simp only [Pl.loadK, Got.load, got_len, List.length_append, List.length_cons, List.length_nil, Pl.size] at *
      omega
    · simp only [List.length_append, List.length_cons, List.length_nil, Pl.size] at *
      omega
  | .idx τ p k, n => by
    have h1 := way_rows_le (.idx τ p k) n
    have h2 := way_steps_le (.idx τ p k) n
    have ih := load_rows_le p n
    have := size_pos p
    unfold Pl.load
    split
    · simp only [Pl.loadK, Got.load, got_len, List.length_append, List.length_cons, List.length_nil, Pl.size] at *
      omega
    · simp only [List.length_append, List.length_cons, List.length_nil, Pl.size] at *
      omega
section
variable {prog : Program} {w : World} {A : Around} {E : Value → Shared → Prop} {s : Shared}
theorem eq_str_f {x y : Str} {t u : Tok} {Q : Value → Shared → Prop} (h : x ≠ y) (q : Q (.bool false) s) : wpAny (model prog w) A (compareOp .Eq (.str x t) (.str y u)) Q E s := by
  refine eq_str ?_
  rw [show (x == y) = false from beq_eq_false_iff_ne.mpr h]
  exact q
end
theorem TIn.cast {led : List (Addr × Obj)} {v : Value} {d d' : Dat} (h : TIn led v d) (e : d = d') : TIn led v d' := e ▸ h
theorem w_C20_0 : True := by
  w_top off
  k_with_none
  k_with "k_all" => (assumption)
  k_with "eval Dict" => (k_here; k_dflt (first
  | (refine' kdn_str ?q ?F ?N ?b ?a ?l ?e ?n ?_; (case q => rfl); (case F => k_asm); (case N => first | k_asm | exact News.nil); (case b => exact Top.nolimit (by k_asm)); (case a => rfl); (case l => rfl); (case e => exact List.cons_ne_nil _ _); (case n => exact Nat.le_of_ble_eq_true rfl))
  | (refine' kdn_int ?q ?F ?N ?b ?a ?l ?e ?n ?_; (case q => rfl); (case F => k_asm); (case N => first | k_asm | exact News.nil); (case b => exact Top.nolimit (by k_asm)); (case a => rfl); (case l => rfl); (case e => exact List.cons_ne_nil _ _); (case n => exact Nat.le_of_ble_eq_true rfl))); intro d' h' o' F' N' l1 lo' hd'; (try k_lt l1))
  k_with "eval Dict nil nil" => (k_here; k_dflt (refine' newDict_K ?k1 ?k2 (TopRead.nolimit (by k_asm)) ?_; (case k1 => k_asm); (case k2 => k_asm); k_whole); intro d' h' o' F' N' l1 lo' hs' fs' hi' fi'; (try k_lt l1); (try k_sweep))
  k_with "ktr_room" => (refine room_of ?_; (try simp +zetaDelta only [depth_under_make, depth_under_kw, depth_in1, depth_deeper]); (try dsimp only [ktrTop]); (first | exact rl1 (by assumption) (by exact rfl) | exact rl2 (by assumption) (by exact rfl) | exact rl3 (by assumption) (by exact rfl) | omega))
  k_with "ktr_enter" => (refine' code_def ?k1 ?k2 ?k3 ?k4 ?k5 ?kA ?kF ?kK ?k6 ?k7 ?k8 ?k9 ?kB ?_ ?c2 ?c3 ?c4 ?c5; (case kA => exact rfl); (case kF => exact rfl); (case kK => first | exact rfl | assumption); (case k1 => k_asm); (case k2 => k_asm); (case k3 => k_asm); (case k4 => k_asm); (case k5 => k_asm); (case k6 => k_is); (case k7 => k_is); (case k8 => ktr_room); (case k9 => first | exact BindsTo.of_eq rfl | exact binds_K (by k_in) rfl (by k_is) rfl rfl rfl); (case c5 => decide); (case kB => exact locs rfl); (case c2 => exact rfl); (case c3 => exact rfl); (case c4 => exact rfl); k_whole; intro g' L' h' FG' F' N' B' X' T'; (try dsimp only); (try k_fold); (try (refine let_enter ?_; intro M1 A1)))
  k_with "call ref" => (k_here; k_dflt (first
  | (refine wpAny_call ?_; ktr_enter)
  | (refine' call_cls0 ?k1 ?k2 ?k3 ?k4 ?k5 ?_; (case k1 => k_asm); (case k2 => k_asm); (case k3 => k_asm); (case k4 => k_is); (case k5 => k_is); k_whole; intro x' d' h' F' N' l1 l2; (try k_lt l1); (try k_lt2 l2); (try k_sweep))
  | (refine' call_cls ?k1 ?k2 ?k3 ?k4 ?k5 ?k6 ?_; (case k1 => k_asm); (case k2 => k_asm); (case k3 => k_asm); (case k4 => k_is); (case k5 => k_is); (case k6 => k_is); k_whole; intro x' d' h' F' N' l1 l2; (try k_lt l1); (try k_lt2 l2); (try k_sweep); ktr_enter)
  | (refine' call_meth ?k1 ?k2 ?_; (case k1 => k_asm); (case k2 => k_mem); k_whole; ktr_enter)))
  k_with "ktr_units" => ((try simp +zetaDelta only [units_in1, units_deeper, Around.mark_units, units_make]); (try dsimp only [ktrTop]); first | exact rl1 (by assumption) (by exact rfl) | exact rl2 (by assumption) (by exact rfl) | exact rl3 (by assumption) (by exact rfl) | omega | ((show _ < (9900 : Nat)); omega))
  k_with "call type:frozenset" => (k_here; k_dflt (refine' fz_call ?F ?N ?m ?d ?z ?_; (case F => k_asm); (case N => k_asm); (case m => k_mem); (case d => k_asm); (case z => k_asm)); intro D' h' tq' led' F' N' l1; (try k_lt l1))
  k_with "compareOp In int ref" => (k_here; k_dflt (refine' fz_in ?N ?m ?_; (case N => k_asm); (case m => k_mem)))
  k_with "call type:list" => (k_here; (with_reducible show wpAny _ _ (call (Value.type "list") [Value.ref _]) _ _ _); k_dflt (refine' list_copyK ?k1 ?k2 ?k3 ?_ ?z; (case k1 => k_asm); (case k2 => k_asm); (case k3 => exact News.isList (by k_asm) (by k_mem)); (case z => first | exact Nat.le_of_ble_eq_true rfl | omega); k_whole); intro D' c' h' F' N' l1; (try k_lt l1); (try k_sweep))
  k_with "k_mem" => (with_reducible kcf_m)
  k_with "k_get" => (with_reducible assumption)
  k_with "call builtin:len" => (k_here; (with_reducible show wpAny _ _ (call (Value.builtin "len") [Value.ref _]) _ _ _); k_dflt (refine' len_arr ?N ?m ?z ?_; (case N => k_asm); (case m => k_mem); (case z => (simp only [Array.size_push, List.size_toArray]; omega))))
  k_with "kcf_m" => (refine via (by assumption) ?_; kcf_m)
  k_with "subscriptTail Name Slice ref ref" => (k_here; (with_reducible show wpAny _ _ (subscriptTail _ _ (Value.ref _) (Value.ref _)) _ _ _); k_dflt (first
  | (refine' tup_head ?F ?N ?m ?h0 ?b ?e ?_ ?s ?t ?z; (case F => k_asm); (case N => k_asm); (case m => k_mem); (case h0 => decide); (case b => first | exact Nat.le_of_ble_eq_true rfl | (simp only [List.length_cons]; omega)); (case e => first | exact tk1 | exact dp1 | exact dp2 | exact rfl); (case s => with_unfolding_all rfl); (case t => kmk_pure); (case z => first | exact Nat.le_of_ble_eq_true rfl | (simp only [List.length_cons]; omega)))
  | (refine' tup_rest ?F ?N ?m ?h0 ?b ?e ?_ ?s ?t ?z; (case F => k_asm); (case N => k_asm); (case m => k_mem); (case h0 => decide); (case b => first | exact Nat.le_of_ble_eq_true rfl | (simp only [List.length_cons]; omega)); (case e => first | exact tk1 | exact dp1 | exact dp2 | exact rfl); (case s => with_unfolding_all rfl); (case t => kmk_pure); (case z => first | exact Nat.le_of_ble_eq_true rfl | (simp only [List.length_cons]; omega)))); intro D' h' F' N' l1; (try k_lt l1); (try k_sweep))
  k_with "subscriptTail" => (k_here; (with_reducible show wpAny _ _ (subscriptTail _ _ (Value.ref _) (Value.int _ _)) _ _ _); k_dflt (first
  | (refine' list_tailL ?N ?m ?a ?b ?x ?_ ?s; (case N => k_asm); (case m => k_mem); (case a => decide); (case b => decide); (case x => first | exact rfl | assumption); (case s => with_unfolding_all rfl))
  | (refine' dict_tail (knd := intKind _ _) ?N ?m ?d ?k ?v ?_ ?s; (case N => k_asm); (case m => k_mem); (case d => with_reducible assumption); (case k => exact intKind_is _ _ _ _); (case v => first | with_reducible assumption | exact rfl); (case s => with_unfolding_all rfl))))
  k_with "subscriptTail" => (k_here; (with_reducible show wpAny _ _ (subscriptTail _ _ (Value.ref _) (Value.str _ _)) _ _ _); k_dflt
  (refine' dict_tail (knd := strKind _ _) ?N ?m ?d ?k ?v ?_ ?s; (case N => k_asm); (case m => k_mem); (case d => with_reducible assumption); (case k => exact strKind_is _ _ _ _); (case v => exact rfl); (case s => with_unfolding_all rfl)))
  k_with "getItem ref str" => (k_here; k_dflt
  (refine' dict_get (knd := strKind _ _) ?N ?m ?d ?k ?v ?_; (case N => k_asm); (case m => k_mem); (case d => with_reducible assumption); (case k => exact strKind_is _ _ _ _); (case v => exact rfl)))
  k_with "compareOp In int ref" => (k_here; k_dflt (refine' fz_in' ?N ?m ?b ?_; (case N => k_asm); (case m => k_mem); (case b => first | assumption | exact rfl)))
  k_with "binaryOp Add ref ref" => (k_here; k_dflt (refine' tup_add ?F ?N ?a ?b ?v ?w ?z ?e ?_; (case F => k_asm); (case N => k_asm); (case a => k_mem); (case b => k_mem); (case v => first | exact List.cons_ne_nil _ _ | assumption); (case w => first | exact List.cons_ne_nil _ _ | assumption); (case z => first | exact Nat.le_of_ble_eq_true rfl | (simp only [List.length_cons, List.length_nil]; omega)); (case e => first | exact ap1 | exact ap2 | exact rfl)); intro D' h' F' N' l1; (try k_lt l1); (try k_sweep))
  k_with "newTuple" => (k_here; k_dflt (refine' kup_newTuple ?F ?N ?_ ?z; (case F => k_asm); (case N => k_asm); (case z => kmk_size)); intro D' h' F' N' l1; (try k_sweep))
  k_with "k_offL" => (first | omega | ((try simp only [List.length_append, List.length_cons, List.length_nil]); omega))
  k_with "subscriptTail" => (k_here; (with_reducible show wpAny _ _ (subscriptTail _ _ (Value.ref _) (Value.int 0 _)) _ _ _); k_dflt (refine' tin_sub0 ?F ?X ?N ?T ?_ ?s; (case F => k_asm); (case X => k_asm); (case N => k_asm); (case T => (refine TIn.up (by assumption) ?_; kat_tups)); (case s => with_unfolding_all rfl)); intro t0')
  k_with "subscriptTail" => (k_here; (with_reducible show wpAny _ _ (subscriptTail _ _ (Value.ref _) (Value.int _ _)) _ _ _); k_dflt (refine' tup_item ?N ?m ?a ?b ?x ?_ ?s; (case N => k_asm); (case m => k_mem); (case a => decide); (case b => decide); (case x => exact rfl); (case s => with_unfolding_all rfl)))
  k_with "compareOp Eq str str" => (k_here; k_dflt (refine' eq_str_f ?h ?_; (case h => with_reducible assumption)))
  k_with "call ref" => (k_here; (with_reducible show wpAny _ _ (call (Value.ref 244) _) _ _ _); k_dflt (refine' runs_use (c_lv0 ?S ?V ?hz ?hy) ?B ?F ?X ?N ?T ?k ?d ?u ?_; (case B => k_asm); (case F => k_asm); (case X => k_asm); (case N => k_asm);(case V => ktu_offI); (case S => (refine SIn.mono ?_ (by assumption); kat_tups));(case hz => k_offL); (case hy => k_offL); (case T => k_asm); (case k => exact rfl); (case d => ((try simp +zetaDelta only [depth_under_make, depth_under_kw, depth_in1, depth_deeper]); (try dsimp only [ktrTop]); (first | exact rl1 (by assumption) (by exact rfl) | exact rl2 (by assumption) (by exact rfl) | exact rl3 (by assumption) (by exact rfl) | omega))); (case u => ktr_units); intro r9 post9 h9 tk9 F' N' P9; revert P9; (refine ex1 ?_); intro rest9 P9; revert P9; (refine an3 ?_); intro up9 V9 T9; have sub9 := V9.sub; (try dsimp only); (try k_sweep)))
  k_with "call ref" => (k_here; (with_reducible show wpAny _ _ (call (Value.ref 244) _) _ _ _); k_dflt (refine' runs_use (c_lvk ?S ?V ?hk) ?B ?F ?X ?N ?T ?k ?d ?u ?_; (case B => k_asm); (case F => k_asm); (case X => k_asm); (case N => k_asm);(case V => ktu_offI); (case S => (refine SIn.mono ?_ (by assumption); kat_tups)); (case hk => first | exact Or.inl rfl | exact Or.inr (Or.inl rfl) | exact Or.inr (Or.inr (Or.inl rfl)) | exact Or.inr (Or.inr (Or.inr rfl))); (case T => k_asm); (case k => exact rfl); (case d => ((try simp +zetaDelta only [depth_under_make, depth_under_kw, depth_in1, depth_deeper]); (try dsimp only [ktrTop]); (first | exact rl1 (by assumption) (by exact rfl) | exact rl2 (by assumption) (by exact rfl) | exact rl3 (by assumption) (by exact rfl) | omega))); (case u => ktr_units); intro r9 post9 h9 tk9 F' N' P9; revert P9; (refine ex1 ?_); intro rest9 P9; revert P9; (refine an3 ?_); intro up9 V9 T9; have sub9 := V9.sub; (try dsimp only); (try k_sweep)))
  k_with "eval Call" => (k_fold; (try (refine tok_gen ?_; intro tkz)))
  k_with "eval Call Attribute" => (k_fold; (try (refine tok_gen ?_; intro tkz)))
  k_with "eval Tuple" => (k_fold; (try (refine tok_gen ?_; intro tkz)))
  trivial
theorem ld_v0 {w : World} {rest : List (Addr × Obj)} {st lr li e : Addr} (S' : SIn w rest st lr li) {t t' t'' : Tok} {v : Value} {τ : Ty} (hm : (e, tupO [sv "local" t, v, .int 0 t', .int 0 t'']) ∈ rest) : LoadC w st lr li rest (.ref e) (.v0 τ) := by
  intro rest' pre n ds up0 V hz hy
  have S := S'.mono up0
  simp only [Pl.size] at hz hy
  have S0 := S
  obtain ⟨m1, m2, m3, m4, m5, m6, m7, m8, m9, m10, m11, m12, m13, m14, m15, i1, i2, g1, g2, g3, g4, g5, g6, g7, n1, n2, n3, n4, n5, n6, n7, n8, n9, x1, x2, x3, x4, x5⟩ := S
  have sub0 := V.sub
  unfold Runs
  k_fill
  intro p loose mean mg mb dp un gd cn cs a ccd cl outer A₀ base h₀ L m s Q E B F X N T hk hd hu ret
  k_steps
  refine' ret _ _ _ _ ?F ?N (spost ?V ?hn ?hd ?up ?T)
  case F => k_asm
  case N => k_asm
  case V => ktu_offI
  case hn => first | rfl | (simp [Pl.load, Pl.loadK, Got.load, Way.got, Pl.way, along, alongRows]; done) | (simp [Pl.load, Pl.loadK, Got.load, Way.got, Pl.way, along, alongRows]; omega)
  case hd => first | rfl | (simp [Pl.load, Pl.loadK, Got.load, Way.got, Pl.way, along, alongRows]; done)
  case up => kat_tups
  case T => first | kqd_in | (simp only [Pl.load, Pl.loadK, Got.load, Way.got, Pl.way, along, alongRows]; kqd_in)
theorem ld_w4 {w : World} {rest : List (Addr × Obj)} {st lr li e : Addr} (S' : SIn w rest st lr li) {t t' t'' : Tok} {v : Value} {τ : Ty} (hm : (e, tupO [sv "local" t, v, .int 0 t', .int 4 t'']) ∈ rest) : LoadC w st lr li rest (.ref e) (.w4 τ) := by
  intro rest' pre n ds up0 V hz hy
  have S := S'.mono up0
  simp only [Pl.size] at hz hy
  have S0 := S
  obtain ⟨m1, m2, m3, m4, m5, m6, m7, m8, m9, m10, m11, m12, m13, m14, m15, i1, i2, g1, g2, g3, g4, g5, g6, g7, n1, n2, n3, n4, n5, n6, n7, n8, n9, x1, x2, x3, x4, x5⟩ := S
  have sub0 := V.sub
  unfold Runs
  k_fill
  intro p loose mean mg mb dp un gd cn cs a ccd cl outer A₀ base h₀ L m s Q E B F X N T hk hd hu ret
  k_steps
  refine' ret _ _ _ _ ?F ?N (spost ?V ?hn ?hd ?up ?T)
  case F => k_asm
  case N => k_asm
  case V => ktu_offI
  case hn => first | rfl | (simp [Pl.load, Pl.loadK, Got.load, Way.got, Pl.way, along, alongRows]; done) | (simp [Pl.load, Pl.loadK, Got.load, Way.got, Pl.way, along, alongRows]; omega)
  case hd => first | rfl | (simp [Pl.load, Pl.loadK, Got.load, Way.got, Pl.way, along, alongRows]; done)
  case up => kat_tups
  case T => first | kqd_in | (simp only [Pl.load, Pl.loadK, Got.load, Way.got, Pl.way, along, alongRows]; kqd_in)
theorem w_C20_1 : True := by
  k_with "call ref" => (k_here; (with_reducible show wpAny _ _ (call (Value.ref 70) _) _ _ _); k_dflt (refine' runs_use (load_use ?h ?up ?V ?hz ?hy) ?B ?F ?X ?N ?T ?k ?d ?u ?_; (case B => k_asm); (case F => k_asm); (case X => k_asm); (case N => k_asm);(case V => ktu_offI); (case h => assumption); (case up => kat_tups);(case hz => k_offL); (case hy => k_offL); (case T => k_asm); (case k => exact rfl); (case d => ((try simp +zetaDelta only [depth_under_make, depth_under_kw, depth_in1, depth_deeper]); (try dsimp only [ktrTop]); (first | exact rl1 (by assumption) (by exact rfl) | exact rl2 (by assumption) (by exact rfl) | exact rl3 (by assumption) (by exact rfl) | omega))); (case u => ktr_units); intro r9 post9 h9 tk9 F' N' P9; revert P9; (refine ex1 ?_); intro rest9 P9; revert P9; (refine an3 ?_); intro up9 V9 T9; have sub9 := V9.sub; (try dsimp only); (try k_sweep)))
  trivial
theorem vl_p {w : World} {rest : List (Addr × Obj)} {st lr li e : Addr} (S' : SIn w rest st lr li) {te : Str} {tt : Tok} {ty : Value} {xs : List Value} {p : Pl}  (hm : (e, tupO (.str te tt :: ty :: xs)) ∈ rest) (hne : te ≠ Str.ofString "const") (IH : LoadC w st lr li rest (.ref e) p) : ValC w st lr li rest (.ref e) (p) := by
  intro rest' pre n ds up0 V hz hy
  have S := S'.mono up0
  have S0 := S
  obtain ⟨m1, m2, m3, m4, m5, m6, m7, m8, m9, m10, m11, m12, m13, m14, m15, i1, i2, g1, g2, g3, g4, g5, g6, g7, n1, n2, n3, n4, n5, n6, n7, n8, n9, x1, x2, x3, x4, x5⟩ := S
  have sub0 := V.sub
  unfold Runs
  k_fill
  intro p loose mean mg mb dp un gd cn cs a ccd cl outer A₀ base h₀ L m s Q E B F X N T hk hd hu ret
  k_steps
  refine' ret _ _ _ _ ?F ?N (spost ?V ?hn ?hd ?up ?T)
  case F => k_asm
  case N => k_asm
  case V => ktu_offI
  case hn => first | rfl | (simp [Pl.load, Pl.loadK, Got.load, Way.got, Pl.way, along, alongRows]; done) | (simp [Pl.load, Pl.loadK, Got.load, Way.got, Pl.way, along, alongRows]; omega)
  case hd => first | rfl | (simp [Pl.load, Pl.loadK, Got.load, Way.got, Pl.way, along, alongRows]; done)
  case up => kat_tups
  case T => first | kqd_in | (simp only [Pl.load, Pl.loadK, Got.load, Way.got, Pl.way, along, alongRows]; kqd_in)
theorem w_C21_0 : True := by
  w_top off
  k_with_none
  k_with "k_all" => (assumption)
  k_with "eval Dict" => (k_here; k_dflt (first
  | (refine' kdn_str ?q ?F ?N ?b ?a ?l ?e ?n ?_; (case q => rfl); (case F => k_asm); (case N => first | k_asm | exact News.nil); (case b => exact Top.nolimit (by k_asm)); (case a => rfl); (case l => rfl); (case e => exact List.cons_ne_nil _ _); (case n => exact Nat.le_of_ble_eq_true rfl))
  | (refine' kdn_int ?q ?F ?N ?b ?a ?l ?e ?n ?_; (case q => rfl); (case F => k_asm); (case N => first | k_asm | exact News.nil); (case b => exact Top.nolimit (by k_asm)); (case a => rfl); (case l => rfl); (case e => exact List.cons_ne_nil _ _); (case n => exact Nat.le_of_ble_eq_true rfl))); intro d' h' o' F' N' l1 lo' hd'; (try k_lt l1))
  k_with "eval Dict nil nil" => (k_here; k_dflt (refine' newDict_K ?k1 ?k2 (TopRead.nolimit (by k_asm)) ?_; (case k1 => k_asm); (case k2 => k_asm); k_whole); intro d' h' o' F' N' l1 lo' hs' fs' hi' fi'; (try k_lt l1); (try k_sweep))
  k_with "ktr_room" => (refine room_of ?_; (try simp +zetaDelta only [depth_under_make, depth_under_kw, depth_in1, depth_deeper]); (try dsimp only [ktrTop]); (first | exact rl1 (by assumption) (by exact rfl) | exact rl2 (by assumption) (by exact rfl) | exact rl3 (by assumption) (by exact rfl) | omega))
  k_with "ktr_enter" => (refine' code_def ?k1 ?k2 ?k3 ?k4 ?k5 ?kA ?kF ?kK ?k6 ?k7 ?k8 ?k9 ?kB ?_ ?c2 ?c3 ?c4 ?c5; (case kA => exact rfl); (case kF => exact rfl); (case kK => first | exact rfl | assumption); (case k1 => k_asm); (case k2 => k_asm); (case k3 => k_asm); (case k4 => k_asm); (case k5 => k_asm); (case k6 => k_is); (case k7 => k_is); (case k8 => ktr_room); (case k9 => first | exact BindsTo.of_eq rfl | exact binds_K (by k_in) rfl (by k_is) rfl rfl rfl); (case c5 => decide); (case kB => exact locs rfl); (case c2 => exact rfl); (case c3 => exact rfl); (case c4 => exact rfl); k_whole; intro g' L' h' FG' F' N' B' X' T'; (try dsimp only); (try k_fold); (try (refine let_enter ?_; intro M1 A1)))
  k_with "call ref" => (k_here; k_dflt (first
  | (refine wpAny_call ?_; ktr_enter)
  | (refine' call_cls0 ?k1 ?k2 ?k3 ?k4 ?k5 ?_; (case k1 => k_asm); (case k2 => k_asm); (case k3 => k_asm); (case k4 => k_is); (case k5 => k_is); k_whole; intro x' d' h' F' N' l1 l2; (try k_lt l1); (try k_lt2 l2); (try k_sweep))
  | (refine' call_cls ?k1 ?k2 ?k3 ?k4 ?k5 ?k6 ?_; (case k1 => k_asm); (case k2 => k_asm); (case k3 => k_asm); (case k4 => k_is); (case k5 => k_is); (case k6 => k_is); k_whole; intro x' d' h' F' N' l1 l2; (try k_lt l1); (try k_lt2 l2); (try k_sweep); ktr_enter)
  | (refine' call_meth ?k1 ?k2 ?_; (case k1 => k_asm); (case k2 => k_mem); k_whole; ktr_enter)))
  k_with "ktr_units" => ((try simp +zetaDelta only [units_in1, units_deeper, Around.mark_units, units_make]); (try dsimp only [ktrTop]); first | exact rl1 (by assumption) (by exact rfl) | exact rl2 (by assumption) (by exact rfl) | exact rl3 (by assumption) (by exact rfl) | omega | ((show _ < (9900 : Nat)); omega))
  k_with "call type:frozenset" => (k_here; k_dflt (refine' fz_call ?F ?N ?m ?d ?z ?_; (case F => k_asm); (case N => k_asm); (case m => k_mem); (case d => k_asm); (case z => k_asm)); intro D' h' tq' led' F' N' l1; (try k_lt l1))
  k_with "compareOp In int ref" => (k_here; k_dflt (refine' fz_in ?N ?m ?_; (case N => k_asm); (case m => k_mem)))
  k_with "call type:list" => (k_here; (with_reducible show wpAny _ _ (call (Value.type "list") [Value.ref _]) _ _ _); k_dflt (refine' list_copyK ?k1 ?k2 ?k3 ?_ ?z; (case k1 => k_asm); (case k2 => k_asm); (case k3 => exact News.isList (by k_asm) (by k_mem)); (case z => first | exact Nat.le_of_ble_eq_true rfl | omega); k_whole); intro D' c' h' F' N' l1; (try k_lt l1); (try k_sweep))
  k_with "k_mem" => (with_reducible kcf_m)
  k_with "k_get" => (with_reducible assumption)
  k_with "call builtin:len" => (k_here; (with_reducible show wpAny _ _ (call (Value.builtin "len") [Value.ref _]) _ _ _); k_dflt (refine' len_arr ?N ?m ?z ?_; (case N => k_asm); (case m => k_mem); (case z => (simp only [Array.size_push, List.size_toArray]; omega))))
  k_with "kcf_m" => (refine via (by assumption) ?_; kcf_m)
  k_with "subscriptTail Name Slice ref ref" => (k_here; (with_reducible show wpAny _ _ (subscriptTail _ _ (Value.ref _) (Value.ref _)) _ _ _); k_dflt (first
  | (refine' tup_head ?F ?N ?m ?h0 ?b ?e ?_ ?s ?t ?z; (case F => k_asm); (case N => k_asm); (case m => k_mem); (case h0 => decide); (case b => first | exact Nat.le_of_ble_eq_true rfl | (simp only [List.length_cons]; omega)); (case e => first | exact tk1 | exact dp1 | exact dp2 | exact rfl); (case s => with_unfolding_all rfl); (case t => kmk_pure); (case z => first | exact Nat.le_of_ble_eq_true rfl | (simp only [List.length_cons]; omega)))
  | (refine' tup_rest ?F ?N ?m ?h0 ?b ?e ?_ ?s ?t ?z; (case F => k_asm); (case N => k_asm); (case m => k_mem); (case h0 => decide); (case b => first | exact Nat.le_of_ble_eq_true rfl | (simp only [List.length_cons]; omega)); (case e => first | exact tk1 | exact dp1 | exact dp2 | exact rfl); (case s => with_unfolding_all rfl); (case t => kmk_pure); (case z => first | exact Nat.le_of_ble_eq_true rfl | (simp only [List.length_cons]; omega)))); intro D' h' F' N' l1; (try k_lt l1); (try k_sweep))
  k_with "subscriptTail" => (k_here; (with_reducible show wpAny _ _ (subscriptTail _ _ (Value.ref _) (Value.int _ _)) _ _ _); k_dflt (first
  | (refine' list_tailL ?N ?m ?a ?b ?x ?_ ?s; (case N => k_asm); (case m => k_mem); (case a => decide); (case b => decide); (case x => first | exact rfl | assumption); (case s => with_unfolding_all rfl))
  | (refine' dict_tail (knd := intKind _ _) ?N ?m ?d ?k ?v ?_ ?s; (case N => k_asm); (case m => k_mem); (case d => with_reducible assumption); (case k => exact intKind_is _ _ _ _); (case v => first | with_reducible assumption | exact rfl); (case s => with_unfolding_all rfl))))
  k_with "subscriptTail" => (k_here; (with_reducible show wpAny _ _ (subscriptTail _ _ (Value.ref _) (Value.str _ _)) _ _ _); k_dflt
  (refine' dict_tail (knd := strKind _ _) ?N ?m ?d ?k ?v ?_ ?s; (case N => k_asm); (case m => k_mem); (case d => with_reducible assumption); (case k => exact strKind_is _ _ _ _); (case v => exact rfl); (case s => with_unfolding_all rfl)))
  k_with "getItem ref str" => (k_here; k_dflt
  (refine' dict_get (knd := strKind _ _) ?N ?m ?d ?k ?v ?_; (case N => k_asm); (case m => k_mem); (case d => with_reducible assumption); (case k => exact strKind_is _ _ _ _); (case v => exact rfl)))
  k_with "compareOp In int ref" => (k_here; k_dflt (refine' fz_in' ?N ?m ?b ?_; (case N => k_asm); (case m => k_mem); (case b => first | assumption | exact rfl)))
  k_with "binaryOp Add ref ref" => (k_here; k_dflt (refine' tup_add ?F ?N ?a ?b ?v ?w ?z ?e ?_; (case F => k_asm); (case N => k_asm); (case a => k_mem); (case b => k_mem); (case v => first | exact List.cons_ne_nil _ _ | assumption); (case w => first | exact List.cons_ne_nil _ _ | assumption); (case z => first | exact Nat.le_of_ble_eq_true rfl | (simp only [List.length_cons, List.length_nil]; omega)); (case e => first | exact ap1 | exact ap2 | exact rfl)); intro D' h' F' N' l1; (try k_lt l1); (try k_sweep))
  k_with "newTuple" => (k_here; k_dflt (refine' kup_newTuple ?F ?N ?_ ?z; (case F => k_asm); (case N => k_asm); (case z => kmk_size)); intro D' h' F' N' l1; (try k_sweep))
  k_with "k_offL" => (first | omega | ((try simp only [List.length_append, List.length_cons, List.length_nil]); omega))
  k_with "subscriptTail" => (k_here; (with_reducible show wpAny _ _ (subscriptTail _ _ (Value.ref _) (Value.int 0 _)) _ _ _); k_dflt (refine' tin_sub0 ?F ?X ?N ?T ?_ ?s; (case F => k_asm); (case X => k_asm); (case N => k_asm); (case T => (refine TIn.up (by assumption) ?_; kat_tups)); (case s => with_unfolding_all rfl)); intro t0')
  k_with "subscriptTail" => (k_here; (with_reducible show wpAny _ _ (subscriptTail _ _ (Value.ref _) (Value.int _ _)) _ _ _); k_dflt (refine' tup_item ?N ?m ?a ?b ?x ?_ ?s; (case N => k_asm); (case m => k_mem); (case a => decide); (case b => decide); (case x => exact rfl); (case s => with_unfolding_all rfl)))
  k_with "compareOp Eq str str" => (k_here; k_dflt (refine' eq_str_f ?h ?_; (case h => with_reducible assumption)))
  k_with "call ref" => (k_here; (with_reducible show wpAny _ _ (call (Value.ref 174) _) _ _ _); k_dflt (refine' runs_use (c_fresh ?S ?V ?hr ?hx ?h1 ?h2 ?hz ?hy) ?B ?F ?X ?N ?T ?k ?d ?u ?_; (case B => k_asm); (case F => k_asm); (case X => k_asm); (case N => k_asm);(case V => ktu_offI); (case S => (refine SIn.mono ?_ (by assumption); kat_tups)); (case hr => k_mem); (case hx => kqd_all); (case h1 => exact List.cons_ne_nil _ _); (case h2 => exact Nat.le_of_ble_eq_true rfl);(case hz => k_offL); (case hy => k_offL); (case T => k_asm); (case k => exact rfl); (case d => ((try simp +zetaDelta only [depth_under_make, depth_under_kw, depth_in1, depth_deeper]); (try dsimp only [ktrTop]); (first | exact rl1 (by assumption) (by exact rfl) | exact rl2 (by assumption) (by exact rfl) | exact rl3 (by assumption) (by exact rfl) | omega))); (case u => ktr_units); intro r9 post9 h9 tk9 F' N' P9; revert P9; (refine ex1 ?_); intro rest9 P9; revert P9; (refine an3 ?_); intro up9 V9 T9; have sub9 := V9.sub; (try dsimp only); (try k_sweep)))
  k_with "call ref" => (k_here; (with_reducible show wpAny _ _ (call (Value.ref 56) _) _ _ _); k_dflt (refine' runs_use (way_use ?h ?up ?V ?hz ?hy) ?B ?F ?X ?N ?T ?k ?d ?u ?_; (case B => k_asm); (case F => k_asm); (case X => k_asm); (case N => k_asm);(case V => ktu_offI); (case h => assumption); (case up => kat_tups);(case hz => k_offL); (case hy => k_offL); (case T => k_asm); (case k => exact rfl); (case d => ((try simp +zetaDelta only [depth_under_make, depth_under_kw, depth_in1, depth_deeper]); (try dsimp only [ktrTop]); (first | exact rl1 (by assumption) (by exact rfl) | exact rl2 (by assumption) (by exact rfl) | exact rl3 (by assumption) (by exact rfl) | omega))); (case u => ktr_units); intro r9 post9 h9 tk9 F' N' P9; revert P9; (refine ex1 ?_); intro rest9 P9; revert P9; (refine an3 ?_); intro up9 V9 W9; have sub9 := V9.sub; (try dsimp only); (try k_sweep)))
  k_with "call ref" => (k_here; (with_reducible show wpAny _ _ (call (Value.ref 42) _) _ _ _); k_dflt (refine' runs_use (inmem_b ?h ?hb ?sub) ?B ?F ?X ?N ?T ?k ?d ?u ?_; (case B => k_asm); (case F => k_asm); (case X => k_asm); (case N => k_asm);(case h => assumption); (case hb => assumption); (case sub => kat_tups); (case T => k_asm); (case k => exact rfl); (case d => ((try simp +zetaDelta only [depth_under_make, depth_under_kw, depth_in1, depth_deeper]); (try dsimp only [ktrTop]); (first | exact rl1 (by assumption) (by exact rfl) | exact rl2 (by assumption) (by exact rfl) | exact rl3 (by assumption) (by exact rfl) | omega))); (case u => ktr_units); intro r9 post9 h9 tk9 F' N' P9; revert P9; (refine an2 ?_); intro e9 e8; subst e9; (replace N' := newsEq N' e8); (first | clear e8 post9 | subst e8); (try dsimp only); (try k_sweep)))
  k_with "call ref" => (k_here; (with_reducible show wpAny _ _ (call (Value.ref 63) _) _ _ _); k_dflt (refine' runs_use (c_along ?S ?V ?W ?hz ?hy) ?B ?F ?X ?N ?T ?k ?d ?u ?_; (case B => k_asm); (case F => k_asm); (case X => k_asm); (case N => k_asm);(case V => ktu_offI); (case S => (refine SIn.mono ?_ (by assumption); kat_tups)); (case W => (refine WayIn.mono ?_ (by assumption); kat_tups));(case hz => k_offL); (case hy => k_offL); (case T => k_asm); (case k => exact rfl); (case d => ((try simp +zetaDelta only [depth_under_make, depth_under_kw, depth_in1, depth_deeper]); (try dsimp only [ktrTop]); (first | exact rl1 (by assumption) (by exact rfl) | exact rl2 (by assumption) (by exact rfl) | exact rl3 (by assumption) (by exact rfl) | omega))); (case u => ktr_units); intro r9 post9 h9 tk9 F' N' P9; revert P9; (refine ex1 ?_); intro rest9 P9; revert P9; (refine an3 ?_); intro up9 V9 T9; have sub9 := V9.sub; (try dsimp only); (try k_sweep)))
  k_with "eval Call" => (k_fold; (try (refine tok_gen ?_; intro tkz)))
  k_with "eval Call Attribute" => (k_fold; (try (refine tok_gen ?_; intro tkz)))
  k_with "eval Tuple" => (k_fold; (try (refine tok_gen ?_; intro tkz)))
  trivial
theorem ld_kept {w : World} {rest rest' pre : List (Addr × Obj)} {st lr li e : Addr} {n : Nat} {ds : List Dat} {te : Str} {tt : Tok} {ty : Value} {xs : List Value} {p : Pl} (S' : SIn w rest st lr li) (hm : (e, tupO (.str te tt :: ty :: xs)) ∈ rest) (hne : te ≠ Str.ofString "local") (hkp : p.kept = true) (IM : InMemC w st rest (.ref e) p) (WY : WayC w st lr li rest (.ref e) p)
  (up0 : ∀ x ∈ rest, x ∈ rest') (V : Lv lr li n ds rest' pre) (hz : n + 10 * p.size ≤ 600) (hy : ds.length + 10 * p.size ≤ 600) :
  Runs w 70 [.ref st, .ref e] pre (60 + 20 * p.size) (600 + 200 * p.size) (SPost lr li rest' (n + (p.loadK n).rows.length) (ds ++ (p.loadK n).rows) (p.loadK n).out) := by
  have S := S'.mono up0
  have hp := size_pos p
  have hw := way_rows_le p n
  have hs := way_steps_le p n
  have hl := alongRows_len (p.way n).begin (n + (p.way n).rows.length) (p.way n).steps
  have S0 := S
  obtain ⟨m1, m2, m3, m4, m5, m6, m7, m8, m9, m10, m11, m12, m13, m14, m15, i1, i2, g1, g2, g3, g4, g5, g6, g7, n1, n2, n3, n4, n5, n6, n7, n8, n9, x1, x2, x3, x4, x5⟩ := S
  have sub0 := V.sub
  unfold Runs
  k_fill
  intro p loose mean mg mb dp un gd cn cs a ccd cl outer A₀ base h₀ L m s Q E B F X N T hk hd hu ret
  k_steps
  refine' ret _ _ _ _ ?F ?N (spost ?V ?hn ?hd ?up (TIn.cast ?T ?e))
  case F => k_asm
  case N => k_asm
  case V => ktu_offI
  case up => kat_tups
  case T => kqd_in
  case hn => (simp only [Pl.loadK, Got.load, Way.got, alongRows_len, Nat.add_assoc, List.length_append, List.length_cons, List.length_nil, Bool.false_eq_true, if_false] <;> omega)
  case hd => (simp only [Pl.loadK, Got.load, Way.got, alongRows_len, Nat.add_assoc, List.append_assoc, List.length_append, Bool.false_eq_true, if_false])
  case e => (simp only [Pl.loadK, Got.load, Way.got, alongRows_len, Nat.add_assoc, List.length_append, Bool.false_eq_true, if_false])
theorem w_C22_0 : True := by
  w_top off
  k_with_none
  k_with "k_all" => (assumption)
  k_with "eval Dict" => (k_here; k_dflt (first
  | (refine' kdn_str ?q ?F ?N ?b ?a ?l ?e ?n ?_; (case q => rfl); (case F => k_asm); (case N => first | k_asm | exact News.nil); (case b => exact Top.nolimit (by k_asm)); (case a => rfl); (case l => rfl); (case e => exact List.cons_ne_nil _ _); (case n => exact Nat.le_of_ble_eq_true rfl))
  | (refine' kdn_int ?q ?F ?N ?b ?a ?l ?e ?n ?_; (case q => rfl); (case F => k_asm); (case N => first | k_asm | exact News.nil); (case b => exact Top.nolimit (by k_asm)); (case a => rfl); (case l => rfl); (case e => exact List.cons_ne_nil _ _); (case n => exact Nat.le_of_ble_eq_true rfl))); intro d' h' o' F' N' l1 lo' hd'; (try k_lt l1))
  k_with "eval Dict nil nil" => (k_here; k_dflt (refine' newDict_K ?k1 ?k2 (TopRead.nolimit (by k_asm)) ?_; (case k1 => k_asm); (case k2 => k_asm); k_whole); intro d' h' o' F' N' l1 lo' hs' fs' hi' fi'; (try k_lt l1); (try k_sweep))
  k_with "ktr_room" => (refine room_of ?_; (try simp +zetaDelta only [depth_under_make, depth_under_kw, depth_in1, depth_deeper]); (try dsimp only [ktrTop]); (first | exact rl1 (by assumption) (by exact rfl) | exact rl2 (by assumption) (by exact rfl) | exact rl3 (by assumption) (by exact rfl) | omega))
  k_with "ktr_enter" => (refine' code_def ?k1 ?k2 ?k3 ?k4 ?k5 ?kA ?kF ?kK ?k6 ?k7 ?k8 ?k9 ?kB ?_ ?c2 ?c3 ?c4 ?c5; (case kA => exact rfl); (case kF => exact rfl); (case kK => first | exact rfl | assumption); (case k1 => k_asm); (case k2 => k_asm); (case k3 => k_asm); (case k4 => k_asm); (case k5 => k_asm); (case k6 => k_is); (case k7 => k_is); (case k8 => ktr_room); (case k9 => first | exact BindsTo.of_eq rfl | exact binds_K (by k_in) rfl (by k_is) rfl rfl rfl); (case c5 => decide); (case kB => exact locs rfl); (case c2 => exact rfl); (case c3 => exact rfl); (case c4 => exact rfl); k_whole; intro g' L' h' FG' F' N' B' X' T'; (try dsimp only); (try k_fold); (try (refine let_enter ?_; intro M1 A1)))
  k_with "call ref" => (k_here; k_dflt (first
  | (refine wpAny_call ?_; ktr_enter)
  | (refine' call_cls0 ?k1 ?k2 ?k3 ?k4 ?k5 ?_; (case k1 => k_asm); (case k2 => k_asm); (case k3 => k_asm); (case k4 => k_is); (case k5 => k_is); k_whole; intro x' d' h' F' N' l1 l2; (try k_lt l1); (try k_lt2 l2); (try k_sweep))
  | (refine' call_cls ?k1 ?k2 ?k3 ?k4 ?k5 ?k6 ?_; (case k1 => k_asm); (case k2 => k_asm); (case k3 => k_asm); (case k4 => k_is); (case k5 => k_is); (case k6 => k_is); k_whole; intro x' d' h' F' N' l1 l2; (try k_lt l1); (try k_lt2 l2); (try k_sweep); ktr_enter)
  | (refine' call_meth ?k1 ?k2 ?_; (case k1 => k_asm); (case k2 => k_mem); k_whole; ktr_enter)))
  k_with "ktr_units" => ((try simp +zetaDelta only [units_in1, units_deeper, Around.mark_units, units_make]); (try dsimp only [ktrTop]); first | exact rl1 (by assumption) (by exact rfl) | exact rl2 (by assumption) (by exact rfl) | exact rl3 (by assumption) (by exact rfl) | omega | ((show _ < (9900 : Nat)); omega))
  k_with "call type:frozenset" => (k_here; k_dflt (refine' fz_call ?F ?N ?m ?d ?z ?_; (case F => k_asm); (case N => k_asm); (case m => k_mem); (case d => k_asm); (case z => k_asm)); intro D' h' tq' led' F' N' l1; (try k_lt l1))
  k_with "compareOp In int ref" => (k_here; k_dflt (refine' fz_in ?N ?m ?_; (case N => k_asm); (case m => k_mem)))
  k_with "call type:list" => (k_here; (with_reducible show wpAny _ _ (call (Value.type "list") [Value.ref _]) _ _ _); k_dflt (refine' list_copyK ?k1 ?k2 ?k3 ?_ ?z; (case k1 => k_asm); (case k2 => k_asm); (case k3 => exact News.isList (by k_asm) (by k_mem)); (case z => first | exact Nat.le_of_ble_eq_true rfl | omega); k_whole); intro D' c' h' F' N' l1; (try k_lt l1); (try k_sweep))
  k_with "k_mem" => (with_reducible kcf_m)
  k_with "k_get" => (with_reducible assumption)
  k_with "call builtin:len" => (k_here; (with_reducible show wpAny _ _ (call (Value.builtin "len") [Value.ref _]) _ _ _); k_dflt (refine' len_arr ?N ?m ?z ?_; (case N => k_asm); (case m => k_mem); (case z => (simp only [Array.size_push, List.size_toArray]; omega))))
  k_with "kcf_m" => (refine via (by assumption) ?_; kcf_m)
  k_with "subscriptTail Name Slice ref ref" => (k_here; (with_reducible show wpAny _ _ (subscriptTail _ _ (Value.ref _) (Value.ref _)) _ _ _); k_dflt (first
  | (refine' tup_head ?F ?N ?m ?h0 ?b ?e ?_ ?s ?t ?z; (case F => k_asm); (case N => k_asm); (case m => k_mem); (case h0 => decide); (case b => first | exact Nat.le_of_ble_eq_true rfl | (simp only [List.length_cons]; omega)); (case e => first | exact tk1 | exact dp1 | exact dp2 | exact rfl); (case s => with_unfolding_all rfl); (case t => kmk_pure); (case z => first | exact Nat.le_of_ble_eq_true rfl | (simp only [List.length_cons]; omega)))
  | (refine' tup_rest ?F ?N ?m ?h0 ?b ?e ?_ ?s ?t ?z; (case F => k_asm); (case N => k_asm); (case m => k_mem); (case h0 => decide); (case b => first | exact Nat.le_of_ble_eq_true rfl | (simp only [List.length_cons]; omega)); (case e => first | exact tk1 | exact dp1 | exact dp2 | exact rfl); (case s => with_unfolding_all rfl); (case t => kmk_pure); (case z => first | exact Nat.le_of_ble_eq_true rfl | (simp only [List.length_cons]; omega)))); intro D' h' F' N' l1; (try k_lt l1); (try k_sweep))
  k_with "subscriptTail" => (k_here; (with_reducible show wpAny _ _ (subscriptTail _ _ (Value.ref _) (Value.int _ _)) _ _ _); k_dflt (first
  | (refine' list_tailL ?N ?m ?a ?b ?x ?_ ?s; (case N => k_asm); (case m => k_mem); (case a => decide); (case b => decide); (case x => first | exact rfl | assumption); (case s => with_unfolding_all rfl))
  | (refine' dict_tail (knd := intKind _ _) ?N ?m ?d ?k ?v ?_ ?s; (case N => k_asm); (case m => k_mem); (case d => with_reducible assumption); (case k => exact intKind_is _ _ _ _); (case v => first | with_reducible assumption | exact rfl); (case s => with_unfolding_all rfl))))
  k_with "subscriptTail" => (k_here; (with_reducible show wpAny _ _ (subscriptTail _ _ (Value.ref _) (Value.str _ _)) _ _ _); k_dflt
  (refine' dict_tail (knd := strKind _ _) ?N ?m ?d ?k ?v ?_ ?s; (case N => k_asm); (case m => k_mem); (case d => with_reducible assumption); (case k => exact strKind_is _ _ _ _); (case v => exact rfl); (case s => with_unfolding_all rfl)))
  k_with "getItem ref str" => (k_here; k_dflt
  (refine' dict_get (knd := strKind _ _) ?N ?m ?d ?k ?v ?_; (case N => k_asm); (case m => k_mem); (case d => with_reducible assumption); (case k => exact strKind_is _ _ _ _); (case v => exact rfl)))
  k_with "compareOp In int ref" => (k_here; k_dflt (refine' fz_in' ?N ?m ?b ?_; (case N => k_asm); (case m => k_mem); (case b => first | assumption | exact rfl)))
  k_with "binaryOp Add ref ref" => (k_here; k_dflt (refine' tup_add ?F ?N ?a ?b ?v ?w ?z ?e ?_; (case F => k_asm); (case N => k_asm); (case a => k_mem); (case b => k_mem); (case v => first | exact List.cons_ne_nil _ _ | assumption); (case w => first | exact List.cons_ne_nil _ _ | assumption); (case z => first | exact Nat.le_of_ble_eq_true rfl | (simp only [List.length_cons, List.length_nil]; omega)); (case e => first | exact ap1 | exact ap2 | exact rfl)); intro D' h' F' N' l1; (try k_lt l1); (try k_sweep))
  k_with "newTuple" => (k_here; k_dflt (refine' kup_newTuple ?F ?N ?_ ?z; (case F => k_asm); (case N => k_asm); (case z => kmk_size)); intro D' h' F' N' l1; (try k_sweep))
  k_with "k_offL" => (first | omega | ((try simp only [List.length_append, List.length_cons, List.length_nil]); omega))
  k_with "subscriptTail" => (k_here; (with_reducible show wpAny _ _ (subscriptTail _ _ (Value.ref _) (Value.int 0 _)) _ _ _); k_dflt (refine' tin_sub0 ?F ?X ?N ?T ?_ ?s; (case F => k_asm); (case X => k_asm); (case N => k_asm); (case T => (refine TIn.up (by assumption) ?_; kat_tups)); (case s => with_unfolding_all rfl)); intro t0')
  k_with "subscriptTail" => (k_here; (with_reducible show wpAny _ _ (subscriptTail _ _ (Value.ref _) (Value.int _ _)) _ _ _); k_dflt (refine' tup_item ?N ?m ?a ?b ?x ?_ ?s; (case N => k_asm); (case m => k_mem); (case a => decide); (case b => decide); (case x => exact rfl); (case s => with_unfolding_all rfl)))
  k_with "compareOp Eq str str" => (k_here; k_dflt (refine' eq_str_f ?h ?_; (case h => with_reducible assumption)))
  k_with "call ref" => (k_here; (with_reducible show wpAny _ _ (call (Value.ref 174) _) _ _ _); k_dflt (refine' runs_use (c_fresh ?S ?V ?hr ?hx ?h1 ?h2 ?hz ?hy) ?B ?F ?X ?N ?T ?k ?d ?u ?_; (case B => k_asm); (case F => k_asm); (case X => k_asm); (case N => k_asm);(case V => ktu_offI); (case S => (refine SIn.mono ?_ (by assumption); kat_tups)); (case hr => k_mem); (case hx => kqd_all); (case h1 => exact List.cons_ne_nil _ _); (case h2 => exact Nat.le_of_ble_eq_true rfl);(case hz => k_offL); (case hy => k_offL); (case T => k_asm); (case k => exact rfl); (case d => ((try simp +zetaDelta only [depth_under_make, depth_under_kw, depth_in1, depth_deeper]); (try dsimp only [ktrTop]); (first | exact rl1 (by assumption) (by exact rfl) | exact rl2 (by assumption) (by exact rfl) | exact rl3 (by assumption) (by exact rfl) | omega))); (case u => ktr_units); intro r9 post9 h9 tk9 F' N' P9; revert P9; (refine ex1 ?_); intro rest9 P9; revert P9; (refine an3 ?_); intro up9 V9 T9; have sub9 := V9.sub; (try dsimp only); (try k_sweep)))
  k_with "call ref" => (k_here; (with_reducible show wpAny _ _ (call (Value.ref 42) _) _ _ _); k_dflt (refine' runs_use (inmem_b ?h ?hb ?sub) ?B ?F ?X ?N ?T ?k ?d ?u ?_; (case B => k_asm); (case F => k_asm); (case X => k_asm); (case N => k_asm);(case h => assumption); (case hb => assumption); (case sub => kat_tups); (case T => k_asm); (case k => exact rfl); (case d => ((try simp +zetaDelta only [depth_under_make, depth_under_kw, depth_in1, depth_deeper]); (try dsimp only [ktrTop]); (first | exact rl1 (by assumption) (by exact rfl) | exact rl2 (by assumption) (by exact rfl) | exact rl3 (by assumption) (by exact rfl) | omega))); (case u => ktr_units); intro r9 post9 h9 tk9 F' N' P9; revert P9; (refine an2 ?_); intro e9 e8; subst e9; (replace N' := newsEq N' e8); (first | clear e8 post9 | subst e8); (try dsimp only); (try k_sweep)))
  k_with "call ref" => (k_here; (with_reducible show wpAny _ _ (call (Value.ref 272) _) _ _ _); k_dflt (refine' runs_use (val_use ?h ?up ?V ?hz ?hy) ?B ?F ?X ?N ?T ?k ?d ?u ?_; (case B => k_asm); (case F => k_asm); (case X => k_asm); (case N => k_asm);(case V => ktu_offI); (case h => assumption); (case up => kat_tups);(case hz => k_offL); (case hy => k_offL); (case T => k_asm); (case k => exact rfl); (case d => ((try simp +zetaDelta only [depth_under_make, depth_under_kw, depth_in1, depth_deeper]); (try dsimp only [ktrTop]); (first | exact rl1 (by assumption) (by exact rfl) | exact rl2 (by assumption) (by exact rfl) | exact rl3 (by assumption) (by exact rfl) | omega))); (case u => ktr_units); intro r9 post9 h9 tk9 F' N' P9; revert P9; (refine ex1 ?_); intro rest9 P9; revert P9; (refine an3 ?_); intro up9 V9 T9; have sub9 := V9.sub; (try dsimp only); (try k_sweep)))
  k_with "eval Call" => (k_fold; (try (refine tok_gen ?_; intro tkz)))
  k_with "eval Call Attribute" => (k_fold; (try (refine tok_gen ?_; intro tkz)))
  k_with "eval Tuple" => (k_fold; (try (refine tok_gen ?_; intro tkz)))
  trivial
theorem ld_fld {w : World} {rest : List (Addr × Obj)} {st lr li e : Addr} (S' : SIn w rest st lr li) {t t' t'' : Tok} {v u : Value} {τ : Ty} {p : Pl} {f : Int} (hm : (e, tupO [sv "field" t, v, .int 0 t', u, .int f t'']) ∈ rest) (hkp : (Pl.fld τ p f).kept = false) (IM : InMemC w st rest (.ref e) (.fld τ p f)) (IH : ValC w st lr li rest u p) : LoadC w st lr li rest (.ref e) (.fld τ p f) := by
  intro rest' pre n ds up0 V hz hy
  have S := S'.mono up0
  have hk2 : p.kept = false := hkp
  have hls : (Pl.fld τ p f).size = p.size + 1 := rfl
  rw [hls] at hz hy
  have hlr := load_rows_le p n
  have hsp := size_pos p
  have S0 := S
  obtain ⟨m1, m2, m3, m4, m5, m6, m7, m8, m9, m10, m11, m12, m13, m14, m15, i1, i2, g1, g2, g3, g4, g5, g6, g7, n1, n2, n3, n4, n5, n6, n7, n8, n9, x1, x2, x3, x4, x5⟩ := S
  have sub0 := V.sub
  unfold Runs
  k_fill
  intro p loose mean mg mb dp un gd cn cs a ccd cl outer A₀ base h₀ L m s Q E B F X N T hk hd hu ret
  rw [hls] at hd hu
  k_steps
  refine' ret _ _ _ _ ?F ?N (spost ?V ?hn ?hd ?up (TIn.cast ?T ?e))
  case F => k_asm
  case N => k_asm
  case V => ktu_offI
  case up => kat_tups
  case T => kqd_in
  case hn => (simp only [Pl.load, hk2, List.length_append, List.length_cons, List.length_nil, Bool.false_eq_true, if_false] <;> omega)
  case hd => (simp only [Pl.load, hk2, List.append_assoc, List.length_append, Bool.false_eq_true, if_false])
  case e => (simp only [Pl.load, hk2, List.length_append, Bool.false_eq_true, if_false])
theorem w_C22_1 : True := by
  k_with "call ref" => (k_here; (with_reducible show wpAny _ _ (call (Value.ref 272) _) _ _ _); k_dflt (refine' runs_use (c_valN ?S ?V ?hv) ?B ?F ?X ?N ?T ?k ?d ?u ?_; (case B => k_asm); (case F => k_asm); (case X => k_asm); (case N => k_asm);(case V => ktu_offI); (case S => (refine SIn.mono ?_ (by assumption); kat_tups)); (case hv => (refine NumIn.mono ?_ (by assumption); kat_tups)); (case T => k_asm); (case k => exact rfl); (case d => ((try simp +zetaDelta only [depth_under_make, depth_under_kw, depth_in1, depth_deeper]); (try dsimp only [ktrTop]); (first | exact rl1 (by assumption) (by exact rfl) | exact rl2 (by assumption) (by exact rfl) | exact rl3 (by assumption) (by exact rfl) | omega))); (case u => ktr_units); intro r9 post9 h9 tk9 F' N' P9; revert P9; (refine ex1 ?_); intro rest9 P9; revert P9; (refine an3 ?_); intro up9 V9 T9; have sub9 := V9.sub; (try dsimp only); (try k_sweep)))
  trivial
theorem ld_idx {w : World} {rest : List (Addr × Obj)} {st lr li e : Addr} (S' : SIn w rest st lr li) {t t' : Tok} {v u y : Value} {τ : Ty} {p : Pl} {k : Num} (hm : (e, tupO [sv "index" t, v, .int 0 t', u, y]) ∈ rest) (hk : NumIn rest y k) (hkp : (Pl.idx τ p k).kept = false) (IM : InMemC w st rest (.ref e) (.idx τ p k)) (IH : ValC w st lr li rest u p) : LoadC w st lr li rest (.ref e) (.idx τ p k) := by
  intro rest' pre n ds up0 V hz hy
  have S := S'.mono up0
  have hk2 : p.kept = false := hkp
  have hls : (Pl.idx τ p k).size = p.size + 1 := rfl
  rw [hls] at hz hy
  have hlr := load_rows_le p n
  have hsp := size_pos p
  have S0 := S
  obtain ⟨m1, m2, m3, m4, m5, m6, m7, m8, m9, m10, m11, m12, m13, m14, m15, i1, i2, g1, g2, g3, g4, g5, g6, g7, n1, n2, n3, n4, n5, n6, n7, n8, n9, x1, x2, x3, x4, x5⟩ := S
  have sub0 := V.sub
  unfold Runs
  k_fill
  intro p loose mean mg mb dp un gd cn cs a ccd cl outer A₀ base h₀ L m s Q E B F X N T hk hd hu ret
  rw [hls] at hd hu
  k_steps
  refine' ret _ _ _ _ ?F ?N (spost ?V ?hn ?hd ?up (TIn.cast ?T ?e))
  case F => k_asm
  case N => k_asm
  case V => ktu_offI
  case up => kat_tups
  case T => kqd_in
  case hn => (simp only [Pl.load, hk2, List.length_append, List.length_cons, List.length_nil, Bool.false_eq_true, if_false] <;> omega)
  case hd => (simp only [Pl.load, hk2, List.append_assoc, List.length_append, Bool.false_eq_true, if_false])
  case e => (simp only [Pl.load, hk2, List.length_append, Bool.false_eq_true, if_false])
theorem ld_k {w : World} {rest : List (Addr × Obj)} {st lr li : Addr} (S : SIn w rest st lr li) {v : Value} {p : Pl} (h : PlIn rest v p) {e : Addr} {te : Str} {tt : Tok} {ty : Value} {xs : List Value} (he : v = .ref e) (hm : (e, tupO (.str te tt :: ty :: xs)) ∈ rest) (hne : te ≠ Str.ofString "local") (hkp : p.kept = true) (hl : ∀ n, p.load n = p.loadK n) :
    LoadC w st lr li rest v p := by
  intro rest' pre n ds up V hz hy
  subst he
  rw [hl]
  exact ld_kept S hm hne hkp (im_all S h) (wy_all S h) up V hz hy
theorem vl_all {w : World} {rest : List (Addr × Obj)} {st lr li : Addr} (S : SIn w rest st lr li) {v : Value} {p : Pl} (h : PlIn rest v p) (L : LoadC w st lr li rest v p) : ValC w st lr li rest v p := by
  obtain ⟨a, te, tt, ty, xs, hv, hm, ht, hne⟩ := h.head2
  subst hv
  exact vl_p S hm hne L
theorem ld_all {w : World} {rest : List (Addr × Obj)} {st lr li : Addr} (S : SIn w rest st lr li) : ∀ {v : Value} {p : Pl}, PlIn rest v p → LoadC w st lr li rest v p := by
  intro v p P
  induction P with
  | v0 h _ => exact ld_v0 S h
  | w4 h _ => exact ld_w4 S h
  | glob h t => exact ld_k S (.glob h t) rfl h (by decide) rfl fun _ => rfl
  | dc h a b c d e => exact ld_k S (.dc h a b c d e) rfl h (by decide) rfl fun _ => rfl
  | dl h a b c => exact ld_k S (.dl h a b c) rfl h (by decide) rfl fun _ => rfl
  | sl h a b k => exact ld_k S (.sl h a b k) rfl h (by decide) rfl fun _ => rfl
  | @fld _ _ _ _ _ _ τ p f h t r ih =>
    by_cases hk : p.kept = true
    · exact ld_k S (.fld h t r) rfl h (by decide) hk fun n => by simp [Pl.load, hk]
    · have hk' : (Pl.fld τ p f).kept = false := Bool.eq_false_iff.mpr hk
      exact ld_fld S h hk' (im_all S (.fld h t r)) (vl_all S r ih)
  | @idx _ _ _ _ _ _ τ p k h t r e kk ih =>
    by_cases hk : p.kept = true
    · exact ld_k S (.idx h t r e kk) rfl h (by decide) hk fun n => by simp [Pl.load, hk]
    · have hk' : (Pl.idx τ p k).kept = false := Bool.eq_false_iff.mpr hk
      exact ld_idx S h kk hk' (im_all S (.idx h t r e kk)) (vl_all S r ih)
theorem Runs.pre {w : World} {f : Addr} {args : List Value} {pre pre' : List (Addr × Obj)} {dd uu : Nat} {Post : Value → List (Addr × Obj) → Prop} (C : Runs w f args pre dd uu Post) (hs : ∀ p ∈ pre, p ∈ pre') : Runs w f args pre' dd uu Post := by
  unfold Runs at *
  intro p loose mean mg mb dp un gd cn cs a ccd cl outer A₀ base h₀ L m s Q E B F X N T hk hd' hu' ret
  exact C p loose mean mg mb dp un gd cn cs a ccd cl outer A₀ base h₀ L m s Q E B F X (News.sub N hs) T hk hd' hu' ret
theorem c_newreg2 (w : World) (rest : List (Addr × Obj)) {st dst cd dcd lr T : Addr} {es ecd : List DictEntry} {nes ncd kr n : Nat} {regs : List Value} {tv : Value} {o : Obj}
  (h1 : (st, instObj 303 dst) ∈ rest) (h2 : (dst, dictOf es nes) ∈ rest) (h3 : getL "code" es = some (some (.ref cd))) (h4 : (cd, instObj 128 dcd) ∈ rest) (h5 : (dcd, dictOf ecd ncd) ∈ rest) (h6 : getL "registers" ecd = some (some (.ref lr)))
  (ho : ∀ p ∈ rest, p.1 ≠ lr) (hn : regs.length = n) (hz : n ≤ 1000) :
  Runs w 153 [.ref st, tv] ((T, o) :: (lr, listOf regs.toArray kr) :: rest) 2 15 (fun r post => ∃ u k, r = .int (n : Int) u ∧ post = (lr, listOf (regs ++ [tv]).toArray k) :: rest) :=
  (c_newreg w rest h1 h2 h3 h4 h5 h6 ho hn hz).pre fun _ hp => .tail _ hp
theorem stored_at (kvs : List (Int × Value)) (k : Int) (v : Value) : valueAt (stored kvs k v) k = some v := by
  unfold stored
  split
  · rename_i h
    induction kvs with
    | nil => simp at h
    | cons a r ih =>
      by_cases e : a.1 = k
      · simp [valueAt, e]
      · have h' : (r.any fun kv => decide (kv.1 = k)) = true := by simpa [e] using h
        have := ih h'
        simp only [valueAt, List.map_cons, if_neg e, List.find?_cons] at this ⊢
        simp only [e, decide_false]
        exact this
  · rename_i h
    induction kvs with
    | nil => simp [valueAt]
    | cons a r ih =>
      have e : ¬ a.1 = k := fun q => h (by simp [q])
      have h' : ¬ (r.any fun kv => decide (kv.1 = k)) = true := fun q => h (by simp only [List.any_cons, q, Bool.or_true])
      have := ih h'
      simp only [valueAt, List.cons_append, List.find?_cons] at this ⊢
      simp only [e, decide_false]
      exact this
theorem w_C23_0 : True := by
  w_top off
  k_with_none
  k_with "k_all" => (assumption)
  k_with "eval Dict" => (k_here; k_dflt (first
  | (refine' kdn_str ?q ?F ?N ?b ?a ?l ?e ?n ?_; (case q => rfl); (case F => k_asm); (case N => first | k_asm | exact News.nil); (case b => exact Top.nolimit (by k_asm)); (case a => rfl); (case l => rfl); (case e => exact List.cons_ne_nil _ _); (case n => exact Nat.le_of_ble_eq_true rfl))
  | (refine' kdn_int ?q ?F ?N ?b ?a ?l ?e ?n ?_; (case q => rfl); (case F => k_asm); (case N => first | k_asm | exact News.nil); (case b => exact Top.nolimit (by k_asm)); (case a => rfl); (case l => rfl); (case e => exact List.cons_ne_nil _ _); (case n => exact Nat.le_of_ble_eq_true rfl))); intro d' h' o' F' N' l1 lo' hd'; (try k_lt l1))
  k_with "eval Dict nil nil" => (k_here; k_dflt (refine' newDict_K ?k1 ?k2 (TopRead.nolimit (by k_asm)) ?_; (case k1 => k_asm); (case k2 => k_asm); k_whole); intro d' h' o' F' N' l1 lo' hs' fs' hi' fi'; (try k_lt l1); (try k_sweep))
  k_with "ktr_room" => (refine room_of ?_; (try simp +zetaDelta only [depth_under_make, depth_under_kw, depth_in1, depth_deeper]); (try dsimp only [ktrTop]); (first | exact rl1 (by assumption) (by exact rfl) | exact rl2 (by assumption) (by exact rfl) | exact rl3 (by assumption) (by exact rfl) | omega))
  k_with "ktr_enter" => (refine' code_def ?k1 ?k2 ?k3 ?k4 ?k5 ?kA ?kF ?kK ?k6 ?k7 ?k8 ?k9 ?kB ?_ ?c2 ?c3 ?c4 ?c5; (case kA => exact rfl); (case kF => exact rfl); (case kK => first | exact rfl | assumption); (case k1 => k_asm); (case k2 => k_asm); (case k3 => k_asm); (case k4 => k_asm); (case k5 => k_asm); (case k6 => k_is); (case k7 => k_is); (case k8 => ktr_room); (case k9 => first | exact BindsTo.of_eq rfl | exact binds_K (by k_in) rfl (by k_is) rfl rfl rfl); (case c5 => decide); (case kB => exact locs rfl); (case c2 => exact rfl); (case c3 => exact rfl); (case c4 => exact rfl); k_whole; intro g' L' h' FG' F' N' B' X' T'; (try dsimp only); (try k_fold); (try (refine let_enter ?_; intro M1 A1)))
  k_with "call ref" => (k_here; k_dflt (first
  | (refine wpAny_call ?_; ktr_enter)
  | (refine' call_cls0 ?k1 ?k2 ?k3 ?k4 ?k5 ?_; (case k1 => k_asm); (case k2 => k_asm); (case k3 => k_asm); (case k4 => k_is); (case k5 => k_is); k_whole; intro x' d' h' F' N' l1 l2; (try k_lt l1); (try k_lt2 l2); (try k_sweep))
  | (refine' call_cls ?k1 ?k2 ?k3 ?k4 ?k5 ?k6 ?_; (case k1 => k_asm); (case k2 => k_asm); (case k3 => k_asm); (case k4 => k_is); (case k5 => k_is); (case k6 => k_is); k_whole; intro x' d' h' F' N' l1 l2; (try k_lt l1); (try k_lt2 l2); (try k_sweep); ktr_enter)
  | (refine' call_meth ?k1 ?k2 ?_; (case k1 => k_asm); (case k2 => k_mem); k_whole; ktr_enter)))
  k_with "ktr_units" => ((try simp +zetaDelta only [units_in1, units_deeper, Around.mark_units, units_make]); (try dsimp only [ktrTop]); first | exact rl1 (by assumption) (by exact rfl) | exact rl2 (by assumption) (by exact rfl) | exact rl3 (by assumption) (by exact rfl) | omega | ((show _ < (9900 : Nat)); omega))
  k_with "call type:frozenset" => (k_here; k_dflt (refine' fz_call ?F ?N ?m ?d ?z ?_; (case F => k_asm); (case N => k_asm); (case m => k_mem); (case d => k_asm); (case z => k_asm)); intro D' h' tq' led' F' N' l1; (try k_lt l1))
  k_with "compareOp In int ref" => (k_here; k_dflt (refine' fz_in ?N ?m ?_; (case N => k_asm); (case m => k_mem)))
  k_with "call type:list" => (k_here; (with_reducible show wpAny _ _ (call (Value.type "list") [Value.ref _]) _ _ _); k_dflt (refine' list_copyK ?k1 ?k2 ?k3 ?_ ?z; (case k1 => k_asm); (case k2 => k_asm); (case k3 => exact News.isList (by k_asm) (by k_mem)); (case z => first | exact Nat.le_of_ble_eq_true rfl | omega); k_whole); intro D' c' h' F' N' l1; (try k_lt l1); (try k_sweep))
  k_with "k_mem" => (with_reducible kcf_m)
  k_with "k_get" => (with_reducible assumption)
  k_with "call builtin:len" => (k_here; (with_reducible show wpAny _ _ (call (Value.builtin "len") [Value.ref _]) _ _ _); k_dflt (refine' len_arr ?N ?m ?z ?_; (case N => k_asm); (case m => k_mem); (case z => (simp only [Array.size_push, List.size_toArray]; omega))))
  k_with "kcf_m" => (refine via (by assumption) ?_; kcf_m)
  k_with "subscriptTail Name Slice ref ref" => (k_here; (with_reducible show wpAny _ _ (subscriptTail _ _ (Value.ref _) (Value.ref _)) _ _ _); k_dflt (first
  | (refine' tup_head ?F ?N ?m ?h0 ?b ?e ?_ ?s ?t ?z; (case F => k_asm); (case N => k_asm); (case m => k_mem); (case h0 => decide); (case b => first | exact Nat.le_of_ble_eq_true rfl | (simp only [List.length_cons]; omega)); (case e => first | exact tk1 | exact dp1 | exact dp2 | exact rfl); (case s => with_unfolding_all rfl); (case t => kmk_pure); (case z => first | exact Nat.le_of_ble_eq_true rfl | (simp only [List.length_cons]; omega)))
  | (refine' tup_rest ?F ?N ?m ?h0 ?b ?e ?_ ?s ?t ?z; (case F => k_asm); (case N => k_asm); (case m => k_mem); (case h0 => decide); (case b => first | exact Nat.le_of_ble_eq_true rfl | (simp only [List.length_cons]; omega)); (case e => first | exact tk1 | exact dp1 | exact dp2 | exact rfl); (case s => with_unfolding_all rfl); (case t => kmk_pure); (case z => first | exact Nat.le_of_ble_eq_true rfl | (simp only [List.length_cons]; omega)))); intro D' h' F' N' l1; (try k_lt l1); (try k_sweep))
  k_with "subscriptTail" => (k_here; (with_reducible show wpAny _ _ (subscriptTail _ _ (Value.ref _) (Value.int _ _)) _ _ _); k_dflt (first
  | (refine' list_tailL ?N ?m ?a ?b ?x ?_ ?s; (case N => k_asm); (case m => k_mem); (case a => decide); (case b => decide); (case x => first | exact rfl | assumption); (case s => with_unfolding_all rfl))
  | (refine' dict_tail (knd := intKind _ _) ?N ?m ?d ?k ?v ?_ ?s; (case N => k_asm); (case m => k_mem); (case d => with_reducible assumption); (case k => exact intKind_is _ _ _ _); (case v => first | with_reducible assumption | exact rfl); (case s => with_unfolding_all rfl))))
  k_with "subscriptTail" => (k_here; (with_reducible show wpAny _ _ (subscriptTail _ _ (Value.ref _) (Value.str _ _)) _ _ _); k_dflt
  (refine' dict_tail (knd := strKind _ _) ?N ?m ?d ?k ?v ?_ ?s; (case N => k_asm); (case m => k_mem); (case d => with_reducible assumption); (case k => exact strKind_is _ _ _ _); (case v => exact rfl); (case s => with_unfolding_all rfl)))
  k_with "getItem ref str" => (k_here; k_dflt
  (refine' dict_get (knd := strKind _ _) ?N ?m ?d ?k ?v ?_; (case N => k_asm); (case m => k_mem); (case d => with_reducible assumption); (case k => exact strKind_is _ _ _ _); (case v => exact rfl)))
  k_with "compareOp In int ref" => (k_here; k_dflt (refine' fz_in' ?N ?m ?b ?_; (case N => k_asm); (case m => k_mem); (case b => first | assumption | exact rfl)))
  k_with "binaryOp Add ref ref" => (k_here; k_dflt (refine' tup_add ?F ?N ?a ?b ?v ?w ?z ?e ?_; (case F => k_asm); (case N => k_asm); (case a => k_mem); (case b => k_mem); (case v => first | exact List.cons_ne_nil _ _ | assumption); (case w => first | exact List.cons_ne_nil _ _ | assumption); (case z => first | exact Nat.le_of_ble_eq_true rfl | (simp only [List.length_cons, List.length_nil]; omega)); (case e => first | exact ap1 | exact ap2 | exact rfl)); intro D' h' F' N' l1; (try k_lt l1); (try k_sweep))
  k_with "setItem ref int" => (k_here; k_dflt (refine' dict_set (knd := intKind _ _) ?F ?N ?U ?d ?k ?_ ?z; (case F => k_asm); (case N => k_asm); (case U => k_updF); (case d => with_reducible assumption); (case k => exact intKind_is _ _ _ _); (case z => (rw [sizeLine_eq]; omega))); intro h' o' F' N' hd'; (try dsimp only at N'); (try k_sweep))
  k_with "subscriptTail" => (k_here; (with_reducible show wpAny _ _ (subscriptTail _ _ (Value.ref _) (Value.int _ _)) _ _ _); k_dflt (refine' dict_tail (knd := intKind _ _) ?N ?m ?d ?k ?v ?_ ?s; (case N => k_asm); (case m => k_mem); (case d => with_reducible assumption); (case k => exact intKind_is _ _ _ _); (case v => exact stored_at _ _ _); (case s => with_unfolding_all rfl)))
  k_with "subscriptTail" => (k_here; (with_reducible show wpAny _ _ (subscriptTail _ _ (Value.ref _) (Value.int _ _)) _ _ _); k_dflt (refine' list_tailL ?N ?m ?a ?b ?x ?_ ?s; (case N => k_asm); (case m => k_mem); (case a => first | decide | assumption | omega); (case b => first | decide | omega); (case x => first | with_reducible assumption | exact rfl); (case s => with_unfolding_all rfl)))
  k_with "call ref" => (k_here; (with_reducible show wpAny _ _ (call (Value.ref 153) _) _ _ _); k_dflt (refine' runs_use (c_newreg _ _ ?a1 ?a2 ?a3 ?a4 ?a5 ?a6 ?a7 ?a8 ?a9) ?B ?F ?X ?N ?T ?k ?d ?u ?_; (case B => k_asm); (case F => k_asm); (case X => k_asm); (case N => k_asm); (case a1 => k_mem); (case a2 => k_mem); (case a3 => k_get); (case a4 => k_mem); (case a5 => k_mem); (case a6 => k_get); (case a7 => k_all); (case a8 => assumption); (case a9 => omega); (case T => k_asm); (case k => exact rfl); (case d => ((try simp +zetaDelta only [depth_under_make, depth_under_kw, depth_in1, depth_deeper]); (try dsimp only [ktrTop]); (first | exact rl1 (by assumption) (by exact rfl) | exact rl2 (by assumption) (by exact rfl) | exact rl3 (by assumption) (by exact rfl) | omega))); (case u => ktr_units); intro r9 post9 h9 tk9 F' N' P9; revert P9; (refine ex2 ?_); intro u9 k9 P9; revert P9; (refine an2 ?_); intro e9 e8; subst e9; (replace N' := newsEq N' e8); (first | clear e8 post9 | subst e8); (try dsimp only); (try k_sweep)))
  k_with "eval Call" => (k_fold; (try (refine tok_gen ?_; intro tkz)))
  k_with "eval Call Attribute" => (k_fold; (try (refine tok_gen ?_; intro tkz)))
  k_with "eval Tuple" => (k_fold; (try (refine tok_gen ?_; intro tkz)))
  trivial
theorem c_takeK (w : World) (rest : List (Addr × Obj)) {st dst cd dcd lr hd tf dtf lro bx ai : Addr} {es ecd etf : List DictEntry} {nes ncd ntf kr kro n : Nat} {regs lrs : List Value} {ohd : Obj} {kvs : List (Int × Value)} {i : Int} {ti tq : Tok} {led : Bool} {nm ty : Value}
  (h1 : (st, instObj 303 dst) ∈ rest) (h2 : (dst, dictOf es nes) ∈ rest) (h3 : getL "code" es = some (some (.ref cd))) (h4 : (cd, instObj 128 dcd) ∈ rest) (h5 : (dcd, dictOf ecd ncd) ∈ rest) (h6 : getL "registers" ecd = some (some (.ref lr)))
  (h7 : getL "typed_fn" es = some (some (.ref tf))) (h8 : (tf, instObj 87 dtf) ∈ rest) (h9 : (dtf, dictOf etf ntf) ∈ rest) (h10 : getL "locals" etf = some (some (.ref lro))) (h11 : (lro, listOf lrs.toArray kro) ∈ rest) (h12 : lrs[i.toNat]? = some (.ref ai)) (h13 : (ai, tupO [nm, ty]) ∈ rest)
  (h14 : getL "boxed" es = some (some (.ref bx))) (h15 : (bx, frozO #[(0, .int 0 tq)] 1 (tab1 led)) ∈ rest) (h16 : getL "held" es = some (some (.ref hd))) (h17 : ohd.IsDictOf (PySem.intKind PySem.Challenge.rw_xm0177_01.row.prog w) kvs)
  (j1 : getL "new_register" es = some none) (j2 : getL "is_boxed" es = some none) (j3 : getL "type_of_local" es = some none)
  (hi : decide (i = 0) = false) (hi0 : 0 ≤ i) (hi1 : i < 100) (ho : ∀ p ∈ rest, p.1 ≠ lr) (ho2 : ∀ p ∈ rest, p.1 ≠ hd) (hne : @Ne Nat lr hd) (hn : regs.length = n) (hz : n ≤ 900) (hkz : kvs.length ≤ 100) :
  Runs w 223 [.ref st, .int i ti] ((lr, listOf regs.toArray kr) :: (hd, ohd) :: rest) 6 40 (fun r post => ∃ ohd' tv u k, (∀ p ∈ (lr, listOf (regs ++ [tv]).toArray k) :: (hd, ohd') :: rest, p ∈ post) ∧ ohd'.IsDictOf (PySem.intKind PySem.Challenge.rw_xm0177_01.row.prog w) (stored kvs i (.int (n : Int) u))) := by
  unfold Runs
  k_fill
  intro p loose mean mg mb dp un gd cn cs a ccd cl outer A₀ base h₀ L m s Q E B F X N T hk hd hu ret
  k_steps
  refine' ret _ _ _ _ ?F ?N ⟨_, _, _, _, fun _ hp => hp, by assumption⟩
  case F => k_asm
  case N => (refine News.sub (by k_asm) ?_; kat_tups)
theorem w_C23_1 : True := by
  k_with "call ref" => (k_here; (with_reducible show wpAny _ _ (call (Value.ref 153) _) _ _ _); k_dflt (refine' runs_use (c_newreg2 _ _ ?a1 ?a2 ?a3 ?a4 ?a5 ?a6 ?a7 ?a8 ?a9) ?B ?F ?X ?N ?T ?k ?d ?u ?_; (case B => k_asm); (case F => k_asm); (case X => k_asm); (case N => k_asm); (case a1 => k_mem); (case a2 => k_mem); (case a3 => k_get); (case a4 => k_mem); (case a5 => k_mem); (case a6 => k_get); (case a7 => k_all); (case a8 => assumption); (case a9 => omega); (case T => k_asm); (case k => exact rfl); (case d => ((try simp +zetaDelta only [depth_under_make, depth_under_kw, depth_in1, depth_deeper]); (try dsimp only [ktrTop]); (first | exact rl1 (by assumption) (by exact rfl) | exact rl2 (by assumption) (by exact rfl) | exact rl3 (by assumption) (by exact rfl) | omega))); (case u => ktr_units); intro r9 post9 h9 tk9 F' N' P9; revert P9; (refine ex2 ?_); intro u9 k9 P9; revert P9; (refine an2 ?_); intro e9 e8; subst e9; (replace N' := newsEq N' e8); (first | clear e8 post9 | subst e8); (try dsimp only); (try k_sweep)))
  trivial
theorem c_take0 (w : World) (rest : List (Addr × Obj)) {st dst cd dcd lr hd tf dtf lro bx ai : Addr} {es ecd etf : List DictEntry} {nes ncd ntf kr kro n : Nat} {regs lrs : List Value} {ohd : Obj} {kvs : List (Int × Value)} {i : Int} {ti tq : Tok} {led : Bool} {nm ty : Value}
  (h1 : (st, instObj 303 dst) ∈ rest) (h2 : (dst, dictOf es nes) ∈ rest) (h3 : getL "code" es = some (some (.ref cd))) (h4 : (cd, instObj 128 dcd) ∈ rest) (h5 : (dcd, dictOf ecd ncd) ∈ rest) (h6 : getL "registers" ecd = some (some (.ref lr)))
  (h7 : getL "typed_fn" es = some (some (.ref tf))) (h8 : (tf, instObj 87 dtf) ∈ rest) (h9 : (dtf, dictOf etf ntf) ∈ rest) (h10 : getL "locals" etf = some (some (.ref lro))) (h11 : (lro, listOf lrs.toArray kro) ∈ rest) (h12 : lrs[i.toNat]? = some (.ref ai)) (h13 : (ai, tupO [nm, ty]) ∈ rest)
  (h14 : getL "boxed" es = some (some (.ref bx))) (h15 : (bx, frozO #[(0, .int 0 tq)] 1 (tab1 led)) ∈ rest) (h16 : getL "held" es = some (some (.ref hd))) (h17 : ohd.IsDictOf (PySem.intKind PySem.Challenge.rw_xm0177_01.row.prog w) kvs)
  (j1 : getL "new_register" es = some none) (j2 : getL "is_boxed" es = some none) (j3 : getL "type_of_local" es = some none)
  (hi : decide (i = 0) = true) (hi0 : 0 ≤ i) (hi1 : i < 100) (ho : ∀ p ∈ rest, p.1 ≠ lr) (ho2 : ∀ p ∈ rest, p.1 ≠ hd) (hne : @Ne Nat lr hd) (hn : regs.length = n) (hz : n ≤ 900) (hkz : kvs.length ≤ 100) :
  Runs w 223 [.ref st, .int i ti] ((lr, listOf regs.toArray kr) :: (hd, ohd) :: rest) 6 40 (fun r post => ∃ ohd' tv u k, (∀ p ∈ (lr, listOf (regs ++ [tv]).toArray k) :: (hd, ohd') :: rest, p ∈ post) ∧ ohd'.IsDictOf (PySem.intKind PySem.Challenge.rw_xm0177_01.row.prog w) (stored kvs i (.int (n : Int) u))) := by
  unfold Runs
  k_fill
  intro p loose mean mg mb dp un gd cn cs a ccd cl outer A₀ base h₀ L m s Q E B F X N T hk hd hu ret
  k_steps
  refine' ret _ _ _ _ ?F ?N ⟨_, _, _, _, fun _ hp => hp, by assumption⟩
  case F => k_asm
  case N => (refine News.sub (by k_asm) ?_; kat_tups)
def Stop (P : Prop) : Prop := P
section
variable {prog : Program} {w : World} {A : Around} {E : Value → Shared → Prop} {s : Shared} {env : Env} {h₀ : Heap} {x : Str} {body : List Stmt} {Q : Flow → Shared → Prop}
theorem range_inv {I : Addr} {a : Int} {n : Nat} (J : Nat → (Str → Option Value) → List (Addr × Obj) → Prop)
    (turn : ∀ i m news, i < n → J i m news → ∀ t h tk, Fr h₀ env.locals h (fun y => if y = x then some (.int (a + (i : Int)) t) else m y) → News h₀ env.locals h ((I, itR (a + ((i + 1 : Nat) : Int)) ((n : Int) - ((i + 1 : Nat) : Int))) :: news) →
      wpAny (model prog w) A (execs body env) (UnrPost h₀ env.locals { s with heap := h, toks := tk } I (itR (a + ((i + 1 : Nat) : Int)) ((n : Int) - ((i + 1 : Nat) : Int))) (J (i + 1)) Q) E { s with heap := h, toks := tk })
    (done : ∀ m news, J n m news → ∀ h tk, Fr h₀ env.locals h m → News h₀ env.locals h news → Q .next { s with heap := h, toks := tk }) :
    ∀ k i m news, i + k = n → J i m news → RangeRest prog w A E h₀ env x body Q s I a n k i m news
  | 0, i, m, news, hk, hJ => by
    have e : i = n := by omega
    subst e
    exact RangeRest.zero (done m news hJ)
  | k + 1, i, m, news, hk, hJ => RangeRest.succ fun t h tk F N => by
    refine wpAny_mono (turn i m news (by omega) hJ t h tk F N) (fun f s₂ p => ?_) fun _ _ e => e
    have fin : ∀ s₃, UnrEnd h₀ env.locals { s with heap := h, toks := tk } I (itR (a + ((i + 1 : Nat) : Int)) ((n : Int) - ((i + 1 : Nat) : Int))) (J (i + 1)) s₃ → UnrEnd h₀ env.locals { s with heap := h, toks := tk } I (itR (a + ((i + 1 : Nat) : Int)) ((n : Int) - ((i + 1 : Nat) : Int))) (RangeRest prog w A E h₀ env x body Q s I a n k (i + 1)) s₃ := by
      rintro s₃ ⟨h', tk', m', news', e, F', N', off, j⟩
      exact ⟨h', tk', m', news', e, F', N', off, range_inv J turn done k (i + 1) m' news' (by omega) j⟩
    cases f with
    | ret v => exact p
    | brk => exact p
    | next => exact fin _ p
    | cont => exact fin _ p
theorem iter_rangeStop {r : Addr} {a₀ b₀ : Int} {t₀ u₀ v₀ : Tok} {n : Nat} {m₀ : Str → Option Value} {news : List (Addr × Obj)}
    (hh : A.handled = none) (hr : IsRange s.heap r a₀ b₀ 1 t₀ u₀ v₀) (hsmall : Builtin.Range.small a₀ b₀ 1 = true) (hn : Builtin.Range.rangeSize a₀ b₀ 1 = (n : Int)) (F : Fr h₀ env.locals s.heap m₀) (N : News h₀ env.locals s.heap news)
    (rest₀ : ∀ I : Addr, (∀ p ∈ news, p.1 < I) → Stop (RangeRest prog w A E h₀ env x body Q s I a₀ n n 0 m₀ news)) :
    wpAny (model prog w) A (pyIter (.ref r)) (fun it s₂ => LoopAtV prog w A h₀ env x body Q E it s₂) E s := iter_rangeUnr hh hr hsmall hn F N rest₀
end
def heldF (u : Nat → Tok) (i : Nat) : List (Int × Value) := (List.range i).map fun (j : Nat) => ((j : Int), Value.int (j : Int) (u j))
theorem heldF_len (u : Nat → Tok) (i : Nat) : (heldF u i).length = i := by simp [heldF]
theorem held_step (u : Nat → Tok) (i : Nat) (t : Tok) : stored (heldF u i) (i : Int) (.int (i : Int) t) = heldF (fun j => if j = i then t else u j) (i + 1) := by
  unfold stored
  rw [if_neg]
  · unfold heldF
    rw [List.range_succ, List.map_append]
    congr 1
    · refine List.map_congr_left fun j hj => ?_
      have : j ≠ i := by have := List.mem_range.mp hj; omega
      simp [this]
    · simp
  · simp only [heldF, List.any_map, Bool.not_eq_true, List.any_eq_false, Function.comp, decide_eq_true_eq]
    intro j hj
    have := List.mem_range.mp hj
    omega
abbrev bookKV (lb : Addr) (n : Nat) (t : Tok) : List (Str × Value) := [(ks "rows", .ref lb), (ks "next", .int (n : Int) t)]
abbrev IsBook (w : World) (o : Obj) (lb : Addr) (n : Nat) (t : Tok) : Prop := o.IsDictOf (PySem.strKind PySem.Challenge.rw_xm0177_01.row.prog w) (bookKV lb n t)
inductive BLv (w : World) (db lb : Addr) (n : Nat) (ds : List Dat) (rest pre : List (Addr × Obj)) : Prop
  | mk {odb : Obj} {rows : List Value} {kb : Nat} {t : Tok} : (∀ p ∈ (db, odb) :: (lb, listOf rows.toArray kb) :: rest, p ∈ pre) → IsBook w odb lb n t → TAll (TL ++ rest) rows ds → (∀ p ∈ rest, p.1 ≠ db) → (∀ p ∈ rest, p.1 ≠ lb) → db ≠ lb → BLv w db lb n ds rest pre
section
variable {w : World} {db lb : Addr} {n : Nat} {ds : List Dat} {rest pre : List (Addr × Obj)}
theorem BLv.sub : BLv w db lb n ds rest pre → ∀ p ∈ rest, p ∈ pre
  | .mk h _ _ _ _ _ => fun p hp => h p (.tail _ (.tail _ hp))
theorem BLv.push {t : Addr × Obj} (hl : ∀ p ∈ pre, p.1 < t.1) : BLv w db lb n ds rest pre → BLv w db lb n ds (t :: rest) (t :: pre)
  | .mk h a b c d e => .mk (List.forall_mem_cons.mpr ⟨.tail _ (h _ (.head _)), List.forall_mem_cons.mpr ⟨.tail _ (h _ (.tail _ (.head _))), List.forall_mem_cons.mpr ⟨.head _, fun p hp => .tail _ (h p (.tail _ (.tail _ hp)))⟩⟩⟩) a (b.up fun _ x => .tail _ x)
      (List.forall_mem_cons.mpr ⟨Nat.ne_of_gt (hl _ (h _ (.head _))), c⟩) (List.forall_mem_cons.mpr ⟨Nat.ne_of_gt (hl _ (h _ (.tail _ (.head _)))), d⟩) e
theorem BLv.cast {n' : Nat} {ds' : List Dat} (h : BLv w db lb n ds rest pre) (hn : n = n') (hd : ds = ds') : BLv w db lb n' ds' rest pre := hn ▸ hd ▸ h
theorem ti_dict : Value.type "tuple_iterator" ≠ .type "dict" := by decide
theorem dict_ti : Value.type "dict" ≠ .type "tuple_iterator" := by decide
theorem IsBook.cls {o : Obj} {t : Tok} (h : IsBook w o lb n t) : o.cls = .type "dict" := by
  obtain ⟨_, _, e, _⟩ := h
  exact e.1
theorem BLv.iter {h₀ h : Heap} {L I : Addr} {o : Obj} (V : BLv w db lb n ds rest pre) (hc : o.cls = .type "tuple_iterator") (N : News h₀ L h ((I, o) :: pre)) : BLv w db lb n ds ((I, o) :: rest) ((I, o) :: pre) := by
  obtain ⟨a, b, c, d, e, f⟩ := V
  have n1 : I ≠ db := news_ne N (.head _) (.tail _ (a _ (.head _))) (by rw [hc, b.cls]; exact ti_dict)
  have n2 : I ≠ lb := news_ne N (.head _) (.tail _ (a _ (.tail _ (.head _)))) (by rw [hc]; exact ti_list)
  exact .mk (List.forall_mem_cons.mpr ⟨.tail _ (a _ (.head _)), List.forall_mem_cons.mpr ⟨.tail _ (a _ (.tail _ (.head _))), List.forall_mem_cons.mpr ⟨.head _, fun p hp => .tail _ (a p (.tail _ (.tail _ hp)))⟩⟩⟩) b (c.up fun _ x => .tail _ x)
    (List.forall_mem_cons.mpr ⟨n1, d⟩) (List.forall_mem_cons.mpr ⟨n2, e⟩) f
theorem BLv.off {h₀ h : Heap} {L I : Addr} {o : Obj} (V : BLv w db lb n ds rest pre) (hc : o.cls = .type "tuple_iterator") (N : News h₀ L h pre) (hI : (I, o) ∈ pre) :
    ∃ pre', (∀ p ∈ pre', p ∈ pre) ∧ (∀ p ∈ pre', p.1 ≠ I) ∧ BLv w db lb n ds (offI I rest) pre' := by
  have hsub := V.sub
  obtain ⟨a, b, c, d, e, f⟩ := V
  rename_i odb rows kb t
  have n1 : db ≠ I := news_ne N (a _ (.head _)) hI (by rw [hc, b.cls]; exact dict_ti)
  have n2 : lb ≠ I := news_ne N (a _ (.tail _ (.head _))) hI (by rw [hc]; exact list_ti)
  refine ⟨(db, odb) :: (lb, listOf rows.toArray kb) :: offI I rest, ?_, ?_, .mk (fun _ hp => hp) b (c.upT (offI_tup N hsub hI hc)) (fun p hp => d p (offI_mem.mp hp).1) (fun p hp => e p (offI_mem.mp hp).1) f⟩
  · exact List.forall_mem_cons.mpr ⟨a _ (.head _), List.forall_mem_cons.mpr ⟨a _ (.tail _ (.head _)), fun p hp => hsub p (offI_mem.mp hp).1⟩⟩
  · exact List.forall_mem_cons.mpr ⟨n1, List.forall_mem_cons.mpr ⟨n2, fun p hp => (offI_mem.mp hp).2⟩⟩
end
def BPost (w : World) (db lb : Addr) (rest : List (Addr × Obj)) (n : Nat) (ds : List Dat) (out : Dat) (r : Value) (post : List (Addr × Obj)) : Prop := ∃ rest', (∀ p ∈ rest, p ∈ rest') ∧ BLv w db lb n ds rest' post ∧ TIn (TL ++ rest') r out
theorem bpost {w : World} {db lb : Addr} {rest rest' : List (Addr × Obj)} {n n' : Nat} {ds ds' : List Dat} {out : Dat} {r : Value} {post : List (Addr × Obj)} (V : BLv w db lb n' ds' rest' post) (hn : n' = n) (hd : ds' = ds) (up : ∀ p ∈ rest, p ∈ rest') (T : TIn (TL ++ rest') r out) : BPost w db lb rest n ds out r post :=
  ⟨rest', up, V.cast hn hd, T⟩
theorem bput_post {w : World} {db lb : Addr} {n : Nat} {ds : List Dat} {rest led : List (Addr × Obj)} {odb : Obj} {rows xs : List Value} {dxs : List Dat} {kb : Nat} {a b : Addr} {t u tw t1 : Tok} {wd : Str}
    (m1 : (db, odb) ∈ led) (i1 : odb.IsDictOf (PySem.strKind PySem.Challenge.rw_xm0177_01.row.prog w) [(ks "rows", .ref lb), (ks "next", .int ((n : Int) + 1) t1)]) (m2 : (lb, listOf (rows.toArray.push (.ref b)) kb) ∈ led) (ma : (a, tupO [sv "reg" t, .int (n : Int) u]) ∈ led) (mb : (b, tupO (.str wd tw :: .int (n : Int) u :: xs)) ∈ led) (hs : ∀ p ∈ rest, p ∈ led)
    (hD : TAll (TL ++ rest) rows ds) (hx : TAll (TL ++ rest) xs dxs) (o1 : ∀ p ∈ rest, p.1 ≠ db) (o2 : ∀ p ∈ rest, p.1 ≠ lb) (o3 : db ≠ lb) (a1 : a ≠ db) (a2 : a ≠ lb) (b1 : b ≠ db) (b2 : b ≠ lb) :
    BPost w db lb rest (n + 1) (ds ++ [.tuple (.str wd :: .int (n : Int) :: dxs)]) (reg n) (.ref a) led := by
  have up : ∀ p ∈ rest, p ∈ [(a, tupO [sv "reg" t, .int (n : Int) u]), (b, tupO (.str wd tw :: .int (n : Int) u :: xs))] ++ rest := fun p hp => List.mem_append.mpr (.inr hp)
  have mA : (a, tupO [sv "reg" t, .int (n : Int) u]) ∈ [(a, tupO [sv "reg" t, .int (n : Int) u]), (b, tupO (.str wd tw :: .int (n : Int) u :: xs))] ++ rest := List.mem_append.mpr (.inl (.head _))
  have mB : (b, tupO (.str wd tw :: .int (n : Int) u :: xs)) ∈ [(a, tupO [sv "reg" t, .int (n : Int) u]), (b, tupO (.str wd tw :: .int (n : Int) u :: xs))] ++ rest := List.mem_append.mpr (.inl (.tail _ (.head _)))
  refine ⟨[(a, tupO [sv "reg" t, .int (n : Int) u]), (b, tupO (.str wd tw :: .int (n : Int) u :: xs))] ++ rest, up, .mk (odb := odb) (rows := rows ++ [.ref b]) (kb := kb) (t := t1) ?_ (by simpa [IsBook, bookKV] using i1) (TAll.snoc (.tup (a := b) (led_mem mB) (.cons (.str _ _) (.cons (.int _ rfl) (hx.up up)))) (hD.up up)) ?_ ?_ o3, .tup (led_mem mA) (.cons (.str _ _) (.cons (.int _ rfl) .nil))⟩
  · rw [push_list] at m2
    exact List.forall_mem_cons.mpr ⟨m1, List.forall_mem_cons.mpr ⟨m2, List.forall_mem_cons.mpr ⟨ma, List.forall_mem_cons.mpr ⟨mb, hs⟩⟩⟩⟩
  · exact List.forall_mem_cons.mpr ⟨a1, List.forall_mem_cons.mpr ⟨b1, o1⟩⟩
  · exact List.forall_mem_cons.mpr ⟨a2, List.forall_mem_cons.mpr ⟨b2, o2⟩⟩
theorem stored_next {lb : Addr} {n : Nat} {t : Tok} {v : Value} : stored (bookKV lb n t) (ks "next") v = [(ks "rows", .ref lb), (ks "next", v)] := by
  have h1 : ¬ ks "rows" = ks "next" := by decide
  simp [stored, bookKV, h1]
theorem book_at_next {lb : Addr} {n : Nat} {t : Tok} : valueAt (bookKV lb n t) (ks "next") = some (.int (n : Int) t) := rfl
theorem book_at_rows {lb : Addr} {n : Nat} {t : Tok} : valueAt (bookKV lb n t) (ks "rows") = some (.ref lb) := rfl
theorem book_at_rows' {lb : Addr} {v : Value} : valueAt [(ks "rows", .ref lb), (ks "next", v)] (ks "rows") = some (.ref lb) := rfl
def Ty.isSl : Ty → Bool
  | .slice => true | _ => false
theorem okTy : ∀ τ : Ty, okD 6 τ.dat
  | .int => ⟨by decide +kernel, by decide +kernel⟩ | .pair => ⟨by decide +kernel, by decide +kernel⟩ | .row => ⟨by decide +kernel, by decide +kernel⟩ | .slice => ⟨by decide +kernel, by decide +kernel⟩ | .arr => ⟨by decide +kernel, by decide +kernel⟩
theorem eqv_slice : ∀ τ : Ty, PyData.eqv (kqdP τ.dat) (kqdP tSlice) = τ.isSl
  | .int => by decide +kernel | .pair => by decide +kernel | .row => by decide +kernel | .slice => by decide +kernel | .arr => by decide +kernel
theorem arr_sl {τ : Ty} (h : τ.isArr = true) : τ.isSl = false := by cases τ <;> first | rfl | exact absurd h (by decide)
section
variable {prog : Program} {w : World} {A : Around} {E : Value → Shared → Prop} {s : Shared} {h₀ : Heap} {L : Addr} {m : Str → Option Value} {news : List (Addr × Obj)}
theorem ty_eq_slice {P : Params} {v : Value} {τ : Ty} {b : Bool} {Q : Value → Shared → Prop} (F : Fr h₀ L s.heap m) (X : (hd.heap_39 P).In h₀) (N : News h₀ L s.heap news) (h : TyIn news v τ) (hb : τ.isSl = b) (hu : A.units + 64 < cLine) (q : Q (.bool b) s) : wpAny (model prog w) A (compareOp .Eq v (.ref 430)) Q E s :=
  cmp_eq F X N h.tin t430 (okTy τ) (okTy .slice) (by decide) (by decide) ((eqv_slice τ).trans hb) hu q
theorem ty_ne_slice {P : Params} {v : Value} {τ : Ty} {Q : Value → Shared → Prop} (F : Fr h₀ L s.heap m) (X : (hd.heap_39 P).In h₀) (N : News h₀ L s.heap news) (h : TyIn news v τ) (hb : τ.isSl = false) (hu : A.units + 64 < cLine) (q : Q (.bool true) s) : wpAny (model prog w) A (compareOp .NotEq v (.ref 430)) Q E s :=
  cmp_ne (r := true) F X N h.tin t430 (okTy τ) (okTy .slice) (by decide) (by decide) (((eqv_slice τ).trans hb).trans rfl) hu q
theorem slice_ne {P : Params} {Q : Value → Shared → Prop} (F : Fr h₀ L s.heap m) (X : (hd.heap_39 P).In h₀) (N : News h₀ L s.heap news) (hu : A.units + 64 < cLine) (q : Q (.bool false) s) : wpAny (model prog w) A (compareOp .NotEq (.ref 430) (.ref 430)) Q E s :=
  cmp_ne (r := false) F X N t430 t430 (okTy .slice) (okTy .slice) (by decide) (by decide) ((eqv_slice .slice).trans rfl) hu q
end
def Pl.isBase : Pl → Bool
  | .fld _ _ _ => false | .idx _ _ _ => false | _ => true
def BegP (w : World) (p : Pl) (pre : List (Addr × Obj)) (r : Value) (post : List (Addr × Obj)) : Prop := post = pre ∧ ∃ d, PlIn pre r d ∧ d.kept = p.kept ∧ d.isBase = true
def BWPost (w : World) (db lb : Addr) (rest : List (Addr × Obj)) (n : Nat) (ds : List Dat) (y : Way) (r : Value) (post : List (Addr × Obj)) : Prop := ∃ rest', (∀ p ∈ rest, p ∈ rest') ∧ BLv w db lb n ds rest' post ∧ WayIn rest' y r
theorem bwpost {w : World} {db lb : Addr} {rest rest' : List (Addr × Obj)} {n n' : Nat} {ds ds' : List Dat} {y : Way} {r : Value} {post : List (Addr × Obj)} (V : BLv w db lb n' ds' rest' post) (hn : n' = n) (hd : ds' = ds) (up : ∀ p ∈ rest, p ∈ rest') (T : WayIn rest' y r) : BWPost w db lb rest n ds y r post := ⟨rest', up, V.cast hn hd, T⟩
def BWayC (w : World) (db lb : Addr) (rest : List (Addr × Obj)) (v : Value) (p : Pl) : Prop := ∀ rest' pre n ds, (∀ x ∈ rest, x ∈ rest') → BLv w db lb n ds rest' pre → n + 4 * p.size ≤ 700 → ds.length + 4 * p.size ≤ 700 →
  Runs w 507 [.ref db, v] pre (30 + 10 * p.size) (300 + 100 * p.size) (BWPost w db lb rest' (n + (p.way n).rows.length) (ds ++ (p.way n).rows) (p.way n))
theorem bway_use {w : World} {db lb : Addr} {rest rest' pre : List (Addr × Obj)} {v : Value} {p : Pl} {n : Nat} {ds : List Dat} (h : BWayC w db lb rest v p) (up : ∀ x ∈ rest, x ∈ rest') (V : BLv w db lb n ds rest' pre) (hz : n + 4 * p.size ≤ 700) (hy : ds.length + 4 * p.size ≤ 700) :
  Runs w 507 [.ref db, v] pre (30 + 10 * p.size) (300 + 100 * p.size) (BWPost w db lb rest' (n + (p.way n).rows.length) (ds ++ (p.way n).rows) (p.way n)) := h _ _ _ _ up V hz hy
section
variable {prog : Program} {w : World} {A : Around} {E : Value → Shared → Prop} {s : Shared} {h₀ : Heap} {L : Addr} {m : Str → Option Value} {news : List (Addr × Obj)}
theorem bsnoc_add {db lb : Addr} {n : Nat} {ds : List Dat} {rest : List (Addr × Obj)} {sa b : Addr} {vs : List Value} {x : Value} {Q : Value → Shared → Prop} (F : Fr h₀ L s.heap m) (N : News h₀ L s.heap news) (V : BLv w db lb n ds rest news) (ha : (sa, tupO vs) ∈ rest) (hb : (b, tupO [x]) ∈ rest) (hz : vs.length ≤ 900)
    (h : ∀ D h' rest' news', Fr h₀ L h' m → News h₀ L h' news' → (∀ p ∈ rest, p ∈ rest') → BLv w db lb n ds rest' news' → (D, tupO (vs ++ [x])) ∈ rest' → (∀ p ∈ rest', p ∈ news') → Q (.ref D) { s with heap := h' }) :
    wpAny (model prog w) A (binaryOp .Add (.ref sa) (.ref b)) Q E s := by
  have ha' := V.sub _ ha
  have hb' := V.sub _ hb
  cases vs with
  | nil => exact kde_addT0 F N (N.isTup ha') (N.isTup hb') (by simp) (by simp) (h b s.heap rest news F N (fun _ q => q) V hb V.sub)
  | cons y ys =>
    refine tup_add F N ha' hb' (List.cons_ne_nil _ _) (List.cons_ne_nil _ _) (by simp at hz ⊢; omega) rfl fun D h' F' N' l => ?_
    exact h D h' _ _ F' N' (fun _ q => .tail _ q) (V.push l) (.head _) (V.push l).sub
end
theorem w_C25_0 : True := by
  w_top off
  k_with_none
  k_with "k_all" => (assumption)
  k_with "eval Dict" => (k_here; k_dflt (first
  | (refine' kdn_str ?q ?F ?N ?b ?a ?l ?e ?n ?_; (case q => rfl); (case F => k_asm); (case N => first | k_asm | exact News.nil); (case b => exact Top.nolimit (by k_asm)); (case a => rfl); (case l => rfl); (case e => exact List.cons_ne_nil _ _); (case n => exact Nat.le_of_ble_eq_true rfl))
  | (refine' kdn_int ?q ?F ?N ?b ?a ?l ?e ?n ?_; (case q => rfl); (case F => k_asm); (case N => first | k_asm | exact News.nil); (case b => exact Top.nolimit (by k_asm)); (case a => rfl); (case l => rfl); (case e => exact List.cons_ne_nil _ _); (case n => exact Nat.le_of_ble_eq_true rfl))); intro d' h' o' F' N' l1 lo' hd'; (try k_lt l1))
  k_with "eval Dict nil nil" => (k_here; k_dflt (refine' newDict_K ?k1 ?k2 (TopRead.nolimit (by k_asm)) ?_; (case k1 => k_asm); (case k2 => k_asm); k_whole); intro d' h' o' F' N' l1 lo' hs' fs' hi' fi'; (try k_lt l1); (try k_sweep))
  k_with "ktr_room" => (refine room_of ?_; (try simp +zetaDelta only [depth_under_make, depth_under_kw, depth_in1, depth_deeper]); (try dsimp only [ktrTop]); (first | exact rl1 (by assumption) (by exact rfl) | exact rl2 (by assumption) (by exact rfl) | exact rl3 (by assumption) (by exact rfl) | omega))
  k_with "ktr_enter" => (refine' code_def ?k1 ?k2 ?k3 ?k4 ?k5 ?kA ?kF ?kK ?k6 ?k7 ?k8 ?k9 ?kB ?_ ?c2 ?c3 ?c4 ?c5; (case kA => exact rfl); (case kF => exact rfl); (case kK => first | exact rfl | assumption); (case k1 => k_asm); (case k2 => k_asm); (case k3 => k_asm); (case k4 => k_asm); (case k5 => k_asm); (case k6 => k_is); (case k7 => k_is); (case k8 => ktr_room); (case k9 => first | exact BindsTo.of_eq rfl | exact binds_K (by k_in) rfl (by k_is) rfl rfl rfl); (case c5 => decide); (case kB => exact locs rfl); (case c2 => exact rfl); (case c3 => exact rfl); (case c4 => exact rfl); k_whole; intro g' L' h' FG' F' N' B' X' T'; (try dsimp only); (try k_fold); (try (refine let_enter ?_; intro M1 A1)))
  k_with "call ref" => (k_here; k_dflt (first
  | (refine wpAny_call ?_; ktr_enter)
  | (refine' call_cls0 ?k1 ?k2 ?k3 ?k4 ?k5 ?_; (case k1 => k_asm); (case k2 => k_asm); (case k3 => k_asm); (case k4 => k_is); (case k5 => k_is); k_whole; intro x' d' h' F' N' l1 l2; (try k_lt l1); (try k_lt2 l2); (try k_sweep))
  | (refine' call_cls ?k1 ?k2 ?k3 ?k4 ?k5 ?k6 ?_; (case k1 => k_asm); (case k2 => k_asm); (case k3 => k_asm); (case k4 => k_is); (case k5 => k_is); (case k6 => k_is); k_whole; intro x' d' h' F' N' l1 l2; (try k_lt l1); (try k_lt2 l2); (try k_sweep); ktr_enter)
  | (refine' call_meth ?k1 ?k2 ?_; (case k1 => k_asm); (case k2 => k_mem); k_whole; ktr_enter)))
  k_with "ktr_units" => ((try simp +zetaDelta only [units_in1, units_deeper, Around.mark_units, units_make]); (try dsimp only [ktrTop]); first | exact rl1 (by assumption) (by exact rfl) | exact rl2 (by assumption) (by exact rfl) | exact rl3 (by assumption) (by exact rfl) | omega | ((show _ < (9900 : Nat)); omega))
  k_with "call type:frozenset" => (k_here; k_dflt (refine' fz_call ?F ?N ?m ?d ?z ?_; (case F => k_asm); (case N => k_asm); (case m => k_mem); (case d => k_asm); (case z => k_asm)); intro D' h' tq' led' F' N' l1; (try k_lt l1))
  k_with "compareOp In int ref" => (k_here; k_dflt (refine' fz_in ?N ?m ?_; (case N => k_asm); (case m => k_mem)))
  k_with "call type:list" => (k_here; (with_reducible show wpAny _ _ (call (Value.type "list") [Value.ref _]) _ _ _); k_dflt (refine' list_copyK ?k1 ?k2 ?k3 ?_ ?z; (case k1 => k_asm); (case k2 => k_asm); (case k3 => exact News.isList (by k_asm) (by k_mem)); (case z => first | exact Nat.le_of_ble_eq_true rfl | omega); k_whole); intro D' c' h' F' N' l1; (try k_lt l1); (try k_sweep))
  k_with "k_mem" => (with_reducible kcf_m)
  k_with "k_get" => (with_reducible assumption)
  k_with "call builtin:len" => (k_here; (with_reducible show wpAny _ _ (call (Value.builtin "len") [Value.ref _]) _ _ _); k_dflt (refine' len_arr ?N ?m ?z ?_; (case N => k_asm); (case m => k_mem); (case z => (simp only [Array.size_push, List.size_toArray]; omega))))
  k_with "kcf_m" => (refine via (by assumption) ?_; kcf_m)
  k_with "subscriptTail Name Slice ref ref" => (k_here; (with_reducible show wpAny _ _ (subscriptTail _ _ (Value.ref _) (Value.ref _)) _ _ _); k_dflt (first
  | (refine' tup_head ?F ?N ?m ?h0 ?b ?e ?_ ?s ?t ?z; (case F => k_asm); (case N => k_asm); (case m => k_mem); (case h0 => decide); (case b => first | exact Nat.le_of_ble_eq_true rfl | (simp only [List.length_cons]; omega)); (case e => first | exact tk1 | exact dp1 | exact dp2 | exact rfl); (case s => with_unfolding_all rfl); (case t => kmk_pure); (case z => first | exact Nat.le_of_ble_eq_true rfl | (simp only [List.length_cons]; omega)))
  | (refine' tup_rest ?F ?N ?m ?h0 ?b ?e ?_ ?s ?t ?z; (case F => k_asm); (case N => k_asm); (case m => k_mem); (case h0 => decide); (case b => first | exact Nat.le_of_ble_eq_true rfl | (simp only [List.length_cons]; omega)); (case e => first | exact tk1 | exact dp1 | exact dp2 | exact rfl); (case s => with_unfolding_all rfl); (case t => kmk_pure); (case z => first | exact Nat.le_of_ble_eq_true rfl | (simp only [List.length_cons]; omega)))); intro D' h' F' N' l1; (try k_lt l1); (try k_sweep))
  k_with "subscriptTail" => (k_here; (with_reducible show wpAny _ _ (subscriptTail _ _ (Value.ref _) (Value.int _ _)) _ _ _); k_dflt (first
  | (refine' list_tailL ?N ?m ?a ?b ?x ?_ ?s; (case N => k_asm); (case m => k_mem); (case a => decide); (case b => decide); (case x => first | exact rfl | assumption); (case s => with_unfolding_all rfl))
  | (refine' dict_tail (knd := intKind _ _) ?N ?m ?d ?k ?v ?_ ?s; (case N => k_asm); (case m => k_mem); (case d => with_reducible assumption); (case k => exact intKind_is _ _ _ _); (case v => first | with_reducible assumption | exact rfl); (case s => with_unfolding_all rfl))))
  k_with "subscriptTail" => (k_here; (with_reducible show wpAny _ _ (subscriptTail _ _ (Value.ref _) (Value.str _ _)) _ _ _); k_dflt
  (refine' dict_tail (knd := strKind _ _) ?N ?m ?d ?k ?v ?_ ?s; (case N => k_asm); (case m => k_mem); (case d => with_reducible assumption); (case k => exact strKind_is _ _ _ _); (case v => exact rfl); (case s => with_unfolding_all rfl)))
  k_with "getItem ref str" => (k_here; k_dflt
  (refine' dict_get (knd := strKind _ _) ?N ?m ?d ?k ?v ?_; (case N => k_asm); (case m => k_mem); (case d => with_reducible assumption); (case k => exact strKind_is _ _ _ _); (case v => exact rfl)))
  k_with "compareOp In int ref" => (k_here; k_dflt (refine' fz_in' ?N ?m ?b ?_; (case N => k_asm); (case m => k_mem); (case b => first | assumption | exact rfl)))
  k_with "binaryOp Add ref ref" => (k_here; k_dflt (refine' tup_add ?F ?N ?a ?b ?v ?w ?z ?e ?_; (case F => k_asm); (case N => k_asm); (case a => k_mem); (case b => k_mem); (case v => first | exact List.cons_ne_nil _ _ | assumption); (case w => first | exact List.cons_ne_nil _ _ | assumption); (case z => first | exact Nat.le_of_ble_eq_true rfl | (simp only [List.length_cons, List.length_nil]; omega)); (case e => first | exact ap1 | exact ap2 | exact rfl)); intro D' h' F' N' l1; (try k_lt l1); (try k_sweep))
  k_with "setItem ref str" => (k_here; k_dflt (refine' dict_set (knd := strKind _ _) ?F ?N ?U ?d ?k ?_ ?z; (case F => k_asm); (case N => k_asm); (case U => k_updF); (case d => with_reducible assumption); (case k => exact strKind_is _ _ _ _); (case z => (rw [sizeLine_eq]; exact Nat.le_of_ble_eq_true rfl))); intro h' o' F' N' hd'; rw [stored_next] at hd'; (try dsimp only at N'); (try k_sweep))
  k_with "eval Call" => (k_fold; (try (refine tok_gen ?_; intro tkz)))
  k_with "eval Call Attribute" => (k_fold; (try (refine tok_gen ?_; intro tkz)))
  k_with "eval Tuple" => (k_fold; (try (refine tok_gen ?_; intro tkz)))
  trivial
theorem c_bput {w : World} {rest pre : List (Addr × Obj)} {db lb row : Addr} {n : Nat} {ds : List Dat} {xs : List Value} {dxs : List Dat} {wd : Str} {tw : Tok} (V : BLv w db lb n ds rest pre) (hr : (row, tupO (.str wd tw :: xs)) ∈ rest) (hx : TAll (TL ++ rest) xs dxs) (h1 : xs ≠ []) (h2 : xs.length ≤ 5) (hy : ds.length ≤ 900) :
  Runs w 486 [.ref db, .ref row] pre 6 40 (BPost w db lb rest (n + 1) (ds ++ [.tuple (.str wd :: .int (n : Int) :: dxs)]) (reg n)) := by
  obtain ⟨hsub, iB, hD, o1, o2, o3⟩ := V
  have hlen := hD.len
  have hpos : 0 < xs.length := List.length_pos_iff.mpr h1
  unfold Runs
  k_fill
  intro p loose mean mg mb dp un gd cn cs a ccd cl outer A₀ base h₀ L m s Q E B F X N T hk hd hu ret
  replace N := News.sub N hsub
  clear hsub
  have o4 : @Ne Nat _ _ := o3
  k_steps
  refine' ret _ _ _ _ ?F ?N (bput_post ?m1 ?i1 ?m2 ?ma ?mb ?hs ?hD ?hx o1 o2 o3 ?a1 ?a2 ?b1 ?b2)
  case F => k_asm
  case N => k_asm
  case m1 => k_mem
  case i1 => assumption
  case m2 => k_mem
  case ma => k_mem
  case mb => k_mem
  case hs => kat_tups
  case hD => assumption
  case hx => assumption
  all_goals exact neN (by omega)
local macro_rules | `(tactic| ktu_offI) => `(tactic| (refine' BLv.push ?l ?v; (case v => ktu_offI); (case l => assumption)))
theorem w_C26_0 : True := by
  w_top off
  k_with_none
  k_with "k_all" => (assumption)
  k_with "eval Dict" => (k_here; k_dflt (first
  | (refine' kdn_str ?q ?F ?N ?b ?a ?l ?e ?n ?_; (case q => rfl); (case F => k_asm); (case N => first | k_asm | exact News.nil); (case b => exact Top.nolimit (by k_asm)); (case a => rfl); (case l => rfl); (case e => exact List.cons_ne_nil _ _); (case n => exact Nat.le_of_ble_eq_true rfl))
  | (refine' kdn_int ?q ?F ?N ?b ?a ?l ?e ?n ?_; (case q => rfl); (case F => k_asm); (case N => first | k_asm | exact News.nil); (case b => exact Top.nolimit (by k_asm)); (case a => rfl); (case l => rfl); (case e => exact List.cons_ne_nil _ _); (case n => exact Nat.le_of_ble_eq_true rfl))); intro d' h' o' F' N' l1 lo' hd'; (try k_lt l1))
  k_with "eval Dict nil nil" => (k_here; k_dflt (refine' newDict_K ?k1 ?k2 (TopRead.nolimit (by k_asm)) ?_; (case k1 => k_asm); (case k2 => k_asm); k_whole); intro d' h' o' F' N' l1 lo' hs' fs' hi' fi'; (try k_lt l1); (try k_sweep))
  k_with "ktr_room" => (refine room_of ?_; (try simp +zetaDelta only [depth_under_make, depth_under_kw, depth_in1, depth_deeper]); (try dsimp only [ktrTop]); (first | exact rl1 (by assumption) (by exact rfl) | exact rl2 (by assumption) (by exact rfl) | exact rl3 (by assumption) (by exact rfl) | omega))
  k_with "ktr_enter" => (refine' code_def ?k1 ?k2 ?k3 ?k4 ?k5 ?kA ?kF ?kK ?k6 ?k7 ?k8 ?k9 ?kB ?_ ?c2 ?c3 ?c4 ?c5; (case kA => exact rfl); (case kF => exact rfl); (case kK => first | exact rfl | assumption); (case k1 => k_asm); (case k2 => k_asm); (case k3 => k_asm); (case k4 => k_asm); (case k5 => k_asm); (case k6 => k_is); (case k7 => k_is); (case k8 => ktr_room); (case k9 => first | exact BindsTo.of_eq rfl | exact binds_K (by k_in) rfl (by k_is) rfl rfl rfl); (case c5 => decide); (case kB => exact locs rfl); (case c2 => exact rfl); (case c3 => exact rfl); (case c4 => exact rfl); k_whole; intro g' L' h' FG' F' N' B' X' T'; (try dsimp only); (try k_fold); (try (refine let_enter ?_; intro M1 A1)))
  k_with "call ref" => (k_here; k_dflt (first
  | (refine wpAny_call ?_; ktr_enter)
  | (refine' call_cls0 ?k1 ?k2 ?k3 ?k4 ?k5 ?_; (case k1 => k_asm); (case k2 => k_asm); (case k3 => k_asm); (case k4 => k_is); (case k5 => k_is); k_whole; intro x' d' h' F' N' l1 l2; (try k_lt l1); (try k_lt2 l2); (try k_sweep))
  | (refine' call_cls ?k1 ?k2 ?k3 ?k4 ?k5 ?k6 ?_; (case k1 => k_asm); (case k2 => k_asm); (case k3 => k_asm); (case k4 => k_is); (case k5 => k_is); (case k6 => k_is); k_whole; intro x' d' h' F' N' l1 l2; (try k_lt l1); (try k_lt2 l2); (try k_sweep); ktr_enter)
  | (refine' call_meth ?k1 ?k2 ?_; (case k1 => k_asm); (case k2 => k_mem); k_whole; ktr_enter)))
  k_with "ktr_units" => ((try simp +zetaDelta only [units_in1, units_deeper, Around.mark_units, units_make]); (try dsimp only [ktrTop]); first | exact rl1 (by assumption) (by exact rfl) | exact rl2 (by assumption) (by exact rfl) | exact rl3 (by assumption) (by exact rfl) | omega | ((show _ < (9900 : Nat)); omega))
  k_with "call type:frozenset" => (k_here; k_dflt (refine' fz_call ?F ?N ?m ?d ?z ?_; (case F => k_asm); (case N => k_asm); (case m => k_mem); (case d => k_asm); (case z => k_asm)); intro D' h' tq' led' F' N' l1; (try k_lt l1))
  k_with "compareOp In int ref" => (k_here; k_dflt (refine' fz_in ?N ?m ?_; (case N => k_asm); (case m => k_mem)))
  k_with "call type:list" => (k_here; (with_reducible show wpAny _ _ (call (Value.type "list") [Value.ref _]) _ _ _); k_dflt (refine' list_copyK ?k1 ?k2 ?k3 ?_ ?z; (case k1 => k_asm); (case k2 => k_asm); (case k3 => exact News.isList (by k_asm) (by k_mem)); (case z => first | exact Nat.le_of_ble_eq_true rfl | omega); k_whole); intro D' c' h' F' N' l1; (try k_lt l1); (try k_sweep))
  k_with "k_mem" => (with_reducible kcf_m)
  k_with "k_get" => (with_reducible assumption)
  k_with "call builtin:len" => (k_here; (with_reducible show wpAny _ _ (call (Value.builtin "len") [Value.ref _]) _ _ _); k_dflt (refine' len_arr ?N ?m ?z ?_; (case N => k_asm); (case m => k_mem); (case z => (simp only [Array.size_push, List.size_toArray]; omega))))
  k_with "kcf_m" => (refine via (by assumption) ?_; kcf_m)
  k_with "subscriptTail Name Slice ref ref" => (k_here; (with_reducible show wpAny _ _ (subscriptTail _ _ (Value.ref _) (Value.ref _)) _ _ _); k_dflt (first
  | (refine' tup_head ?F ?N ?m ?h0 ?b ?e ?_ ?s ?t ?z; (case F => k_asm); (case N => k_asm); (case m => k_mem); (case h0 => decide); (case b => first | exact Nat.le_of_ble_eq_true rfl | (simp only [List.length_cons]; omega)); (case e => first | exact tk1 | exact dp1 | exact dp2 | exact rfl); (case s => with_unfolding_all rfl); (case t => kmk_pure); (case z => first | exact Nat.le_of_ble_eq_true rfl | (simp only [List.length_cons]; omega)))
  | (refine' tup_rest ?F ?N ?m ?h0 ?b ?e ?_ ?s ?t ?z; (case F => k_asm); (case N => k_asm); (case m => k_mem); (case h0 => decide); (case b => first | exact Nat.le_of_ble_eq_true rfl | (simp only [List.length_cons]; omega)); (case e => first | exact tk1 | exact dp1 | exact dp2 | exact rfl); (case s => with_unfolding_all rfl); (case t => kmk_pure); (case z => first | exact Nat.le_of_ble_eq_true rfl | (simp only [List.length_cons]; omega)))); intro D' h' F' N' l1; (try k_lt l1); (try k_sweep))
  k_with "subscriptTail" => (k_here; (with_reducible show wpAny _ _ (subscriptTail _ _ (Value.ref _) (Value.int _ _)) _ _ _); k_dflt (first
  | (refine' list_tailL ?N ?m ?a ?b ?x ?_ ?s; (case N => k_asm); (case m => k_mem); (case a => decide); (case b => decide); (case x => first | exact rfl | assumption); (case s => with_unfolding_all rfl))
  | (refine' dict_tail (knd := intKind _ _) ?N ?m ?d ?k ?v ?_ ?s; (case N => k_asm); (case m => k_mem); (case d => with_reducible assumption); (case k => exact intKind_is _ _ _ _); (case v => first | with_reducible assumption | exact rfl); (case s => with_unfolding_all rfl))))
  k_with "subscriptTail" => (k_here; (with_reducible show wpAny _ _ (subscriptTail _ _ (Value.ref _) (Value.str _ _)) _ _ _); k_dflt
  (refine' dict_tail (knd := strKind _ _) ?N ?m ?d ?k ?v ?_ ?s; (case N => k_asm); (case m => k_mem); (case d => with_reducible assumption); (case k => exact strKind_is _ _ _ _); (case v => exact rfl); (case s => with_unfolding_all rfl)))
  k_with "getItem ref str" => (k_here; k_dflt
  (refine' dict_get (knd := strKind _ _) ?N ?m ?d ?k ?v ?_; (case N => k_asm); (case m => k_mem); (case d => with_reducible assumption); (case k => exact strKind_is _ _ _ _); (case v => exact rfl)))
  k_with "compareOp In int ref" => (k_here; k_dflt (refine' fz_in' ?N ?m ?b ?_; (case N => k_asm); (case m => k_mem); (case b => first | assumption | exact rfl)))
  k_with "binaryOp Add ref ref" => (k_here; k_dflt (refine' tup_add ?F ?N ?a ?b ?v ?w ?z ?e ?_; (case F => k_asm); (case N => k_asm); (case a => k_mem); (case b => k_mem); (case v => first | exact List.cons_ne_nil _ _ | assumption); (case w => first | exact List.cons_ne_nil _ _ | assumption); (case z => first | exact Nat.le_of_ble_eq_true rfl | (simp only [List.length_cons, List.length_nil]; omega)); (case e => first | exact ap1 | exact ap2 | exact rfl)); intro D' h' F' N' l1; (try k_lt l1); (try k_sweep))
  k_with "newTuple" => (k_here; k_dflt (refine' kup_newTuple ?F ?N ?_ ?z; (case F => k_asm); (case N => k_asm); (case z => kmk_size)); intro D' h' F' N' l1; (try k_sweep))
  k_with "k_offL" => (first | omega | ((try simp only [List.length_append, List.length_cons, List.length_nil]); omega))
  k_with "subscriptTail" => (k_here; (with_reducible show wpAny _ _ (subscriptTail _ _ (Value.ref _) (Value.int 0 _)) _ _ _); k_dflt (refine' tin_sub0 ?F ?X ?N ?T ?_ ?s; (case F => k_asm); (case X => k_asm); (case N => k_asm); (case T => (refine TIn.up (by assumption) ?_; kat_tups)); (case s => with_unfolding_all rfl)); intro t0')
  k_with "subscriptTail" => (k_here; (with_reducible show wpAny _ _ (subscriptTail _ _ (Value.ref _) (Value.int _ _)) _ _ _); k_dflt (refine' tup_item ?N ?m ?a ?b ?x ?_ ?s; (case N => k_asm); (case m => k_mem); (case a => decide); (case b => decide); (case x => exact rfl); (case s => with_unfolding_all rfl)))
  k_with "compareOp Eq ref ref" => (k_here; (with_reducible show wpAny _ _ (compareOp _ (Value.ref _) (Value.ref 430)) _ _ _); k_dflt (refine' ty_eq_slice ?F ?X ?N ?h ?b ?u ?_; (case F => k_asm); (case X => k_asm); (case N => k_asm); (case h => first | exact TyIn.slice | (refine TyIn.mono ?_ (by assumption); kat_tups)); (case b => first | assumption | exact rfl); (case u => ktr_units)))
  k_with "compareOp NotEq ref ref" => (k_here; (with_reducible show wpAny _ _ (compareOp _ (Value.ref _) (Value.ref 430)) _ _ _); k_dflt (first | (refine' slice_ne ?F ?X ?N ?u ?_; (case F => k_asm); (case X => k_asm); (case N => k_asm); (case u => ktr_units)) | (refine' ty_ne_slice ?F ?X ?N ?h ?b ?u ?_; (case F => k_asm); (case X => k_asm); (case N => k_asm); (case h => (refine TyIn.mono ?_ (by assumption); kat_tups)); (case b => assumption); (case u => ktr_units))))
  k_with "call ref" => (k_here; (with_reducible show wpAny _ _ (call (Value.ref 486) _) _ _ _); k_dflt (refine' runs_use (c_bput ?V ?hr ?hx ?h1 ?h2 ?hy) ?B ?F ?X ?N ?T ?k ?d ?u ?_; (case B => k_asm); (case F => k_asm); (case X => k_asm); (case N => k_asm);(case V => ktu_offI); (case hr => k_mem); (case hx => kqd_all); (case h1 => exact List.cons_ne_nil _ _); (case h2 => exact Nat.le_of_ble_eq_true rfl); (case hy => k_offL); (case T => k_asm); (case k => exact rfl); (case d => ((try simp +zetaDelta only [depth_under_make, depth_under_kw, depth_in1, depth_deeper]); (try dsimp only [ktrTop]); (first | exact rl1 (by assumption) (by exact rfl) | exact rl2 (by assumption) (by exact rfl) | exact rl3 (by assumption) (by exact rfl) | omega))); (case u => ktr_units); intro r9 post9 h9 tk9 F' N' P9; revert P9; (refine ex1 ?_); intro rest9 P9; revert P9; (refine an3 ?_); intro up9 V9 T9; have sub9 := V9.sub; (try dsimp only); (try k_sweep)))
  k_with "eval Call" => (k_fold; (try (refine tok_gen ?_; intro tkz)))
  k_with "eval Call Attribute" => (k_fold; (try (refine tok_gen ?_; intro tkz)))
  k_with "eval Tuple" => (k_fold; (try (refine tok_gen ?_; intro tkz)))
  trivial
theorem c_bkC {w : World} {rest pre : List (Addr × Obj)} {db lb : Addr} {n : Nat} {ds : List Dat} {e : Addr} {tv xv : Value} {t t' : Tok} {dt dx : Dat} (V : BLv w db lb n ds rest pre) (hm : (e, tupO [sv "const" t, tv, .int 0 t', xv]) ∈ rest) (hT : TIn (TL ++ rest) tv dt) (hX : TIn (TL ++ rest) xv dx) :
  Runs w 493 [.ref db, .ref e] pre 10 80 (BPost w db lb rest n ds (.tuple [sd "const", dt, dx])) := by
  have sub0 := V.sub
  unfold Runs
  k_fill
  intro p loose mean mg mb dp un gd cn cs a ccd cl outer A₀ base h₀ L m s Q E B F X N T hk hd hu ret
  k_steps
  refine' ret _ _ _ _ ?F ?N (bpost ?V ?hn ?hd ?up ?T)
  case F => k_asm
  case N => k_asm
  case V => ktu_offI
  case hn => first | rfl | k_offL
  case hd => first | rfl | simp
  case up => kat_tups
  case T => kqd_in
theorem c_bkL {w : World} {rest pre : List (Addr × Obj)} {db lb : Addr} {n : Nat} {ds : List Dat} {e : Addr} {tv : Value} {t t' t'' : Tok} {k : Int} (V : BLv w db lb n ds rest pre) (hm : (e, tupO [sv "local" t, tv, .int 0 t', .int k t'']) ∈ rest) (hy : ds.length ≤ 800) :
  Runs w 493 [.ref db, .ref e] pre 10 80 (BPost w db lb rest (n + 1) (ds ++ [row1 "move" n (.tuple [sd "reg", .int k])]) (reg n)) := by
  have sub0 := V.sub
  unfold Runs
  k_fill
  intro p loose mean mg mb dp un gd cn cs a ccd cl outer A₀ base h₀ L m s Q E B F X N T hk hd hu ret
  k_steps
  refine' ret _ _ _ _ ?F ?N (bpost ?V ?hn ?hd ?up ?T)
  case F => k_asm
  case N => k_asm
  case V => ktu_offI
  case hn => first | rfl | k_offL
  case hd => first | rfl | simp
  case up => kat_tups
  case T => kqd_in
theorem stop_elim {P : Prop} (h : Stop P) : P := h
theorem w_C27_0 : True := by
  w_top off
  k_with_none
  k_with "k_all" => (assumption)
  k_with "eval Dict" => (k_here; k_dflt (first
  | (refine' kdn_str ?q ?F ?N ?b ?a ?l ?e ?n ?_; (case q => rfl); (case F => k_asm); (case N => first | k_asm | exact News.nil); (case b => exact Top.nolimit (by k_asm)); (case a => rfl); (case l => rfl); (case e => exact List.cons_ne_nil _ _); (case n => exact Nat.le_of_ble_eq_true rfl))
  | (refine' kdn_int ?q ?F ?N ?b ?a ?l ?e ?n ?_; (case q => rfl); (case F => k_asm); (case N => first | k_asm | exact News.nil); (case b => exact Top.nolimit (by k_asm)); (case a => rfl); (case l => rfl); (case e => exact List.cons_ne_nil _ _); (case n => exact Nat.le_of_ble_eq_true rfl))); intro d' h' o' F' N' l1 lo' hd'; (try k_lt l1))
  k_with "eval Dict nil nil" => (k_here; k_dflt (refine' newDict_K ?k1 ?k2 (TopRead.nolimit (by k_asm)) ?_; (case k1 => k_asm); (case k2 => k_asm); k_whole); intro d' h' o' F' N' l1 lo' hs' fs' hi' fi'; (try k_lt l1); (try k_sweep))
  k_with "ktr_room" => (refine room_of ?_; (try simp +zetaDelta only [depth_under_make, depth_under_kw, depth_in1, depth_deeper]); (try dsimp only [ktrTop]); (first | exact rl1 (by assumption) (by exact rfl) | exact rl2 (by assumption) (by exact rfl) | exact rl3 (by assumption) (by exact rfl) | omega))
  k_with "ktr_enter" => (refine' code_def ?k1 ?k2 ?k3 ?k4 ?k5 ?kA ?kF ?kK ?k6 ?k7 ?k8 ?k9 ?kB ?_ ?c2 ?c3 ?c4 ?c5; (case kA => exact rfl); (case kF => exact rfl); (case kK => first | exact rfl | assumption); (case k1 => k_asm); (case k2 => k_asm); (case k3 => k_asm); (case k4 => k_asm); (case k5 => k_asm); (case k6 => k_is); (case k7 => k_is); (case k8 => ktr_room); (case k9 => first | exact BindsTo.of_eq rfl | exact binds_K (by k_in) rfl (by k_is) rfl rfl rfl); (case c5 => decide); (case kB => exact locs rfl); (case c2 => exact rfl); (case c3 => exact rfl); (case c4 => exact rfl); k_whole; intro g' L' h' FG' F' N' B' X' T'; (try dsimp only); (try k_fold); (try (refine let_enter ?_; intro M1 A1)))
  k_with "call ref" => (k_here; k_dflt (first
  | (refine wpAny_call ?_; ktr_enter)
  | (refine' call_cls0 ?k1 ?k2 ?k3 ?k4 ?k5 ?_; (case k1 => k_asm); (case k2 => k_asm); (case k3 => k_asm); (case k4 => k_is); (case k5 => k_is); k_whole; intro x' d' h' F' N' l1 l2; (try k_lt l1); (try k_lt2 l2); (try k_sweep))
  | (refine' call_cls ?k1 ?k2 ?k3 ?k4 ?k5 ?k6 ?_; (case k1 => k_asm); (case k2 => k_asm); (case k3 => k_asm); (case k4 => k_is); (case k5 => k_is); (case k6 => k_is); k_whole; intro x' d' h' F' N' l1 l2; (try k_lt l1); (try k_lt2 l2); (try k_sweep); ktr_enter)
  | (refine' call_meth ?k1 ?k2 ?_; (case k1 => k_asm); (case k2 => k_mem); k_whole; ktr_enter)))
  k_with "ktr_units" => ((try simp +zetaDelta only [units_in1, units_deeper, Around.mark_units, units_make]); (try dsimp only [ktrTop]); first | exact rl1 (by assumption) (by exact rfl) | exact rl2 (by assumption) (by exact rfl) | exact rl3 (by assumption) (by exact rfl) | omega | ((show _ < (9900 : Nat)); omega))
  k_with "call type:frozenset" => (k_here; k_dflt (refine' fz_call ?F ?N ?m ?d ?z ?_; (case F => k_asm); (case N => k_asm); (case m => k_mem); (case d => k_asm); (case z => k_asm)); intro D' h' tq' led' F' N' l1; (try k_lt l1))
  k_with "compareOp In int ref" => (k_here; k_dflt (refine' fz_in ?N ?m ?_; (case N => k_asm); (case m => k_mem)))
  k_with "call type:list" => (k_here; (with_reducible show wpAny _ _ (call (Value.type "list") [Value.ref _]) _ _ _); k_dflt (refine' list_copyK ?k1 ?k2 ?k3 ?_ ?z; (case k1 => k_asm); (case k2 => k_asm); (case k3 => exact News.isList (by k_asm) (by k_mem)); (case z => first | exact Nat.le_of_ble_eq_true rfl | omega); k_whole); intro D' c' h' F' N' l1; (try k_lt l1); (try k_sweep))
  k_with "k_mem" => (with_reducible kcf_m)
  k_with "k_get" => (with_reducible assumption)
  k_with "call builtin:len" => (k_here; (with_reducible show wpAny _ _ (call (Value.builtin "len") [Value.ref _]) _ _ _); k_dflt (refine' len_arr ?N ?m ?z ?_; (case N => k_asm); (case m => k_mem); (case z => (simp only [Array.size_push, List.size_toArray]; omega))))
  k_with "kcf_m" => (refine via (by assumption) ?_; kcf_m)
  k_with "subscriptTail Name Slice ref ref" => (k_here; (with_reducible show wpAny _ _ (subscriptTail _ _ (Value.ref _) (Value.ref _)) _ _ _); k_dflt (first
  | (refine' tup_head ?F ?N ?m ?h0 ?b ?e ?_ ?s ?t ?z; (case F => k_asm); (case N => k_asm); (case m => k_mem); (case h0 => decide); (case b => first | exact Nat.le_of_ble_eq_true rfl | (simp only [List.length_cons]; omega)); (case e => first | exact tk1 | exact dp1 | exact dp2 | exact rfl); (case s => with_unfolding_all rfl); (case t => kmk_pure); (case z => first | exact Nat.le_of_ble_eq_true rfl | (simp only [List.length_cons]; omega)))
  | (refine' tup_rest ?F ?N ?m ?h0 ?b ?e ?_ ?s ?t ?z; (case F => k_asm); (case N => k_asm); (case m => k_mem); (case h0 => decide); (case b => first | exact Nat.le_of_ble_eq_true rfl | (simp only [List.length_cons]; omega)); (case e => first | exact tk1 | exact dp1 | exact dp2 | exact rfl); (case s => with_unfolding_all rfl); (case t => kmk_pure); (case z => first | exact Nat.le_of_ble_eq_true rfl | (simp only [List.length_cons]; omega)))); intro D' h' F' N' l1; (try k_lt l1); (try k_sweep))
  k_with "subscriptTail" => (k_here; (with_reducible show wpAny _ _ (subscriptTail _ _ (Value.ref _) (Value.int _ _)) _ _ _); k_dflt (first
  | (refine' list_tailL ?N ?m ?a ?b ?x ?_ ?s; (case N => k_asm); (case m => k_mem); (case a => decide); (case b => decide); (case x => first | exact rfl | assumption); (case s => with_unfolding_all rfl))
  | (refine' dict_tail (knd := intKind _ _) ?N ?m ?d ?k ?v ?_ ?s; (case N => k_asm); (case m => k_mem); (case d => with_reducible assumption); (case k => exact intKind_is _ _ _ _); (case v => first | with_reducible assumption | exact rfl); (case s => with_unfolding_all rfl))))
  k_with "subscriptTail" => (k_here; (with_reducible show wpAny _ _ (subscriptTail _ _ (Value.ref _) (Value.str _ _)) _ _ _); k_dflt
  (refine' dict_tail (knd := strKind _ _) ?N ?m ?d ?k ?v ?_ ?s; (case N => k_asm); (case m => k_mem); (case d => with_reducible assumption); (case k => exact strKind_is _ _ _ _); (case v => exact rfl); (case s => with_unfolding_all rfl)))
  k_with "getItem ref str" => (k_here; k_dflt
  (refine' dict_get (knd := strKind _ _) ?N ?m ?d ?k ?v ?_; (case N => k_asm); (case m => k_mem); (case d => with_reducible assumption); (case k => exact strKind_is _ _ _ _); (case v => exact rfl)))
  k_with "compareOp In int ref" => (k_here; k_dflt (refine' fz_in' ?N ?m ?b ?_; (case N => k_asm); (case m => k_mem); (case b => first | assumption | exact rfl)))
  k_with "binaryOp Add ref ref" => (k_here; k_dflt (refine' tup_add ?F ?N ?a ?b ?v ?w ?z ?e ?_; (case F => k_asm); (case N => k_asm); (case a => k_mem); (case b => k_mem); (case v => first | exact List.cons_ne_nil _ _ | assumption); (case w => first | exact List.cons_ne_nil _ _ | assumption); (case z => first | exact Nat.le_of_ble_eq_true rfl | (simp only [List.length_cons, List.length_nil]; omega)); (case e => first | exact ap1 | exact ap2 | exact rfl)); intro D' h' F' N' l1; (try k_lt l1); (try k_sweep))
  k_with "newTuple" => (k_here; k_dflt (refine' kup_newTuple ?F ?N ?_ ?z; (case F => k_asm); (case N => k_asm); (case z => kmk_size)); intro D' h' F' N' l1; (try k_sweep))
  k_with "k_offL" => (first | omega | ((try simp only [List.length_append, List.length_cons, List.length_nil]); omega))
  k_with "subscriptTail" => (k_here; (with_reducible show wpAny _ _ (subscriptTail _ _ (Value.ref _) (Value.int 0 _)) _ _ _); k_dflt (refine' tin_sub0 ?F ?X ?N ?T ?_ ?s; (case F => k_asm); (case X => k_asm); (case N => k_asm); (case T => (refine TIn.up (by assumption) ?_; kat_tups)); (case s => with_unfolding_all rfl)); intro t0')
  k_with "subscriptTail" => (k_here; (with_reducible show wpAny _ _ (subscriptTail _ _ (Value.ref _) (Value.int _ _)) _ _ _); k_dflt (refine' tup_item ?N ?m ?a ?b ?x ?_ ?s; (case N => k_asm); (case m => k_mem); (case a => decide); (case b => decide); (case x => exact rfl); (case s => with_unfolding_all rfl)))
  k_with "compareOp Eq ref ref" => (k_here; (with_reducible show wpAny _ _ (compareOp _ (Value.ref _) (Value.ref 430)) _ _ _); k_dflt (refine' ty_eq_slice ?F ?X ?N ?h ?b ?u ?_; (case F => k_asm); (case X => k_asm); (case N => k_asm); (case h => first | exact TyIn.slice | (refine TyIn.mono ?_ (by assumption); kat_tups)); (case b => first | assumption | exact rfl); (case u => ktr_units)))
  k_with "compareOp NotEq ref ref" => (k_here; (with_reducible show wpAny _ _ (compareOp _ (Value.ref _) (Value.ref 430)) _ _ _); k_dflt (first | (refine' slice_ne ?F ?X ?N ?u ?_; (case F => k_asm); (case X => k_asm); (case N => k_asm); (case u => ktr_units)) | (refine' ty_ne_slice ?F ?X ?N ?h ?b ?u ?_; (case F => k_asm); (case X => k_asm); (case N => k_asm); (case h => (refine TyIn.mono ?_ (by assumption); kat_tups)); (case b => assumption); (case u => ktr_units))))
  k_with "exec While BoolOp cons nil" => (k_here; (rename Fr _ _ _ _ => lF'); (rename News _ _ _ _ => lN'); (with_unfolding_all refine' kwd_while0 (Rel := PlIn) (y := Str.ofString "place") [] Pl.size (fun P d => d.kept = P.kept) lF' lN' (by rfl) (by assumption) rfl (stop_elim ?_)); clear lF' lN')
  k_with "eval Call" => (k_fold; (try (refine tok_gen ?_; intro tkz)))
  k_with "eval Call Attribute" => (k_fold; (try (refine tok_gen ?_; intro tkz)))
  k_with "eval Tuple" => (k_fold; (try (refine tok_gen ?_; intro tkz)))
  trivial
theorem c_begin {w : World} {pre : List (Addr × Obj)} {v : Value} {p : Pl} (hp : PlIn pre v p) : Runs w 500 [v] pre 10 100 (BegP w p pre) := by
  unfold Runs
  k_fill
  intro p loose mean mg mb dp un gd cn cs a ccd cl outer A₀ base h₀ L m s Q E B F X N T hk hd hu ret
  k_steps
  unfold Stop
  intro v d u h tk hR hI F' N'
  have hR0 := hR
  cases hR with
  | v0 hm ht =>
    k_steps
    exact ret _ _ _ _ (by k_asm) (by k_asm) ⟨rfl, _, hR0, hI, rfl⟩
  | w4 hm ht =>
    k_steps
    exact ret _ _ _ _ (by k_asm) (by k_asm) ⟨rfl, _, hR0, hI, rfl⟩
  | glob hm ht =>
    k_steps
    exact ret _ _ _ _ (by k_asm) (by k_asm) ⟨rfl, _, hR0, hI, rfl⟩
  | dc hm ht h1 h2 h3 h4 =>
    k_steps
    exact ret _ _ _ _ (by k_asm) (by k_asm) ⟨rfl, _, hR0, hI, rfl⟩
  | dl hm ht h1 h2 =>
    k_steps
    exact ret _ _ _ _ (by k_asm) (by k_asm) ⟨rfl, _, hR0, hI, rfl⟩
  | sl hm ht h1 h2 =>
    k_steps
    exact ret _ _ _ _ (by k_asm) (by k_asm) ⟨rfl, _, hR0, hI, rfl⟩
  | fld hm ht h1 =>
    k_steps
  | idx hm ht h1 h2 h3 =>
    obtain ⟨ia, ite, itt, ity, ixs, rfl, hm2, ht2⟩ := h1.head
    have hsl := arr_sl h2
    k_steps
abbrev KI (w : World) := PySem.intKind PySem.Challenge.rw_xm0177_01.row.prog w
abbrev KS (w : World) := PySem.strKind PySem.Challenge.rw_xm0177_01.row.prog w
inductive S0 (w : World) (rest : List (Addr × Obj)) : Addr → Addr → Addr → Addr → Prop
  | mk {st dst lr li wld dw tf dtf lro a0 a1 a2 a3 a4 bx kn hd cd dcd lb b0 : Addr} {es esw etf ecd : List DictEntry} {nes nw ntf ncd kro kb kb0 : Nat} {x1 x2 x3 x4 y1 y2 y3 y4 : Value} {tv tq th : Tok} {led : Bool} {okn : Obj} :
    (st, instObj 303 dst) ∈ rest → (dst, dictOf es nes) ∈ rest → (wld, instObj 415 dw) ∈ rest → (dw, dictOf esw nw) ∈ rest → (tf, instObj 87 dtf) ∈ rest → (dtf, dictOf etf ntf) ∈ rest →
    (lro, listOf [.ref a0, .ref a1, .ref a2, .ref a3, .ref a4].toArray kro) ∈ rest → (a0, tupO [sv "v" tv, .ref 428]) ∈ rest → (a1, tupO [x1, y1]) ∈ rest → (a2, tupO [x2, y2]) ∈ rest → (a3, tupO [x3, y3]) ∈ rest → (a4, tupO [x4, y4]) ∈ rest →
    (bx, frozO #[(0, .int 0 tq)] 1 (tab1 led)) ∈ rest → (kn, okn) ∈ rest → (cd, instObj 128 dcd) ∈ rest → (dcd, dictOf ecd ncd) ∈ rest → (lb, listOf #[.ref b0] kb) ∈ rest → (b0, listOf #[.ref li, .none] kb0) ∈ rest →
    okn.IsDictOf (KS w) [(ks "value", .ref 465)] →
    getL "world" es = some (some (.ref wld)) → getL "typed_fn" es = some (some (.ref tf)) → getL "boxed" es = some (some (.ref bx)) → getL "known" es = some (some (.ref kn)) → getL "held" es = some (some (.ref hd)) → getL "code" es = some (some (.ref cd)) → getL "here" es = some (some (.int 0 th)) →
    getL "fresh" es = some none → getL "new_register" es = some none → getL "put" es = some none → getL "kept" es = some none → getL "value" es = some none → getL "local_value" es = some none → getL "pointer_of" es = some none → getL "is_boxed" es = some none → getL "type_of_local" es = some none →
    getL "base_of" esw = some none → getL "locals" etf = some (some (.ref lro)) → getL "registers" ecd = some (some (.ref lr)) → getL "blocks" ecd = some (some (.ref lb)) → getL "instructions" ecd = some none → getL "take_register" es = some none → S0 w rest st lr hd li
theorem S0.mono {w : World} {r r' : List (Addr × Obj)} (hs : ∀ p ∈ r, p ∈ r') {st lr hd li : Addr} : S0 w r st lr hd li → S0 w r' st lr hd li
  | .mk m1 m2 m3 m4 m5 m6 m7 m8 m9 m10 m11 m12 m13 m14 m15 m16 m17 m18 i1 g1 g2 g3 g4 g5 g6 g7 n1 n2 n3 n4 n5 n6 n7 n8 n9 x1 x2 x3 x4 x5 x6 =>
    .mk (hs _ m1) (hs _ m2) (hs _ m3) (hs _ m4) (hs _ m5) (hs _ m6) (hs _ m7) (hs _ m8) (hs _ m9) (hs _ m10) (hs _ m11) (hs _ m12) (hs _ m13) (hs _ m14) (hs _ m15) (hs _ m16) (hs _ m17) (hs _ m18) i1 g1 g2 g3 g4 g5 g6 g7 n1 n2 n3 n4 n5 n6 n7 n8 n9 x1 x2 x3 x4 x5 x6
theorem S0.held {w : World} {rest : List (Addr × Obj)} {st lr hd li : Addr} {ohd : Obj} {us : Nat → Tok} (S : S0 w rest st lr hd li) (h : ohd.IsDictOf (KI w) (heldF us 5)) : SIn w ((hd, ohd) :: rest) st lr li := by
  obtain ⟨m1, m2, m3, m4, m5, m6, m7, m8, m9, m10, m11, m12, m13, m14, m15, m16, m17, m18, i1, g1, g2, g3, g4, g5, g6, g7, n1, n2, n3, n4, n5, n6, n7, n8, n9, x1, x2, x3, x4, x5, x6⟩ := S
  exact .mk (.tail _ m1) (.tail _ m2) (.tail _ m3) (.tail _ m4) (.tail _ m5) (.tail _ m6) (.tail _ m7) (.tail _ m8) (.tail _ m13) (.tail _ m14) (.head _) (.tail _ m15) (.tail _ m16) (.tail _ m17) (.tail _ m18) i1 h g1 g2 g3 g4 g5 g6 g7 n1 n2 n3 n4 n5 n6 n7 n8 n9 x1 x2 x3 x4 x5
def TakeP (w : World) (lr hd : Addr) (regs : List Value) (rest : List (Addr × Obj)) (i : Nat) (post : List (Addr × Obj)) : Prop := ∃ ohd' tv us k, (∀ p ∈ (lr, listOf (regs ++ [tv]).toArray k) :: (hd, ohd') :: rest, p ∈ post) ∧ ohd'.IsDictOf (KI w) (heldF us (i + 1))
theorem take_post {w : World} {lr hd : Addr} {regs : List Value} {rest post : List (Addr × Obj)} {us : Nat → Tok} {i : Nat} (h : ∃ ohd' tv u k, (∀ p ∈ (lr, listOf (regs ++ [tv]).toArray k) :: (hd, ohd') :: rest, p ∈ post) ∧ ohd'.IsDictOf (KI w) (stored (heldF us i) (i : Int) (.int (i : Int) u))) : TakeP w lr hd regs rest i post := by
  obtain ⟨o, tv, u, k, hs, hd⟩ := h
  rw [held_step] at hd
  exact ⟨o, tv, _, k, hs, hd⟩
theorem take_S {w : World} {rest : List (Addr × Obj)} {st lr hd li : Addr} {regs : List Value} {kr i : Nat} {ohd : Obj} {us : Nat → Tok} {ti : Tok} (S : S0 w rest st lr hd li) (hi : i < 5) (hn : regs.length = i) (hD : ohd.IsDictOf (KI w) (heldF us i)) (o1 : ∀ p ∈ rest, p.1 ≠ lr) (o2 : ∀ p ∈ rest, p.1 ≠ hd) (o3 : @Ne Nat lr hd) :
    Runs w 223 [.ref st, .int (0 + (i : Int)) ti] ((lr, listOf regs.toArray kr) :: (hd, ohd) :: rest) 6 40 (fun _ post => TakeP w lr hd regs rest i post) := by
  obtain ⟨m1, m2, m3, m4, m5, m6, m7, m8, m9, m10, m11, m12, m13, m14, m15, m16, m17, m18, i1, g1, g2, g3, g4, g5, g6, g7, n1, n2, n3, n4, n5, n6, n7, n8, n9, x1, x2, x3, x4, x5, x6⟩ := S
  have hl : (heldF us i).length ≤ 100 := by rw [heldF_len]; omega
  match i, hi, hn, hD, hl with
  | 0, _, hn, hD, hl => exact (c_take0 w rest m1 m2 g6 m15 m16 x3 g2 m5 m6 x2 m7 (i := 0) rfl m8 g3 m13 g5 hD n2 n8 n9 rfl (by decide) (by decide) o1 o2 o3 hn (by decide) hl).mono (Nat.le_refl _) (Nat.le_refl _) fun _ _ h => take_post h
  | 1, _, hn, hD, hl => exact (c_takeK w rest m1 m2 g6 m15 m16 x3 g2 m5 m6 x2 m7 (i := 1) rfl m9 g3 m13 g5 hD n2 n8 n9 rfl (by decide) (by decide) o1 o2 o3 hn (by decide) hl).mono (Nat.le_refl _) (Nat.le_refl _) fun _ _ h => take_post h
  | 2, _, hn, hD, hl => exact (c_takeK w rest m1 m2 g6 m15 m16 x3 g2 m5 m6 x2 m7 (i := 2) rfl m10 g3 m13 g5 hD n2 n8 n9 rfl (by decide) (by decide) o1 o2 o3 hn (by decide) hl).mono (Nat.le_refl _) (Nat.le_refl _) fun _ _ h => take_post h
  | 3, _, hn, hD, hl => exact (c_takeK w rest m1 m2 g6 m15 m16 x3 g2 m5 m6 x2 m7 (i := 3) rfl m11 g3 m13 g5 hD n2 n8 n9 rfl (by decide) (by decide) o1 o2 o3 hn (by decide) hl).mono (Nat.le_refl _) (Nat.le_refl _) fun _ _ h => take_post h
  | 4, _, hn, hD, hl => exact (c_takeK w rest m1 m2 g6 m15 m16 x3 g2 m5 m6 x2 m7 (i := 4) rfl m12 g3 m13 g5 hD n2 n8 n9 rfl (by decide) (by decide) o1 o2 o3 hn (by decide) hl).mono (Nat.le_refl _) (Nat.le_refl _) fun _ _ h => take_post h
theorem lower_out {w : World} {wld dw tf dtf lro a0 a1 a2 a3 a4 kn : Addr} {rest post : List (Addr × Obj)} {r : Value} {esw etf : List DictEntry} {nw ntf kro : Nat} {x1 x2 x3 x4 y1 y2 y3 y4 : Value} {tv : Tok} {okn : Obj} {C : Prop} (P : LowerP w (.ref wld) (.ref kn) tf rest r post)
    (m3 : (wld, instObj 415 dw) ∈ rest) (m4 : (dw, dictOf esw nw) ∈ rest) (m5 : (tf, instObj 87 dtf) ∈ rest) (m6 : (dtf, dictOf etf ntf) ∈ rest) (m7 : (lro, listOf [.ref a0, .ref a1, .ref a2, .ref a3, .ref a4].toArray kro) ∈ rest) (m8 : (a0, tupO [sv "v" tv, .ref 428]) ∈ rest) (m9 : (a1, tupO [x1, y1]) ∈ rest) (m10 : (a2, tupO [x2, y2]) ∈ rest) (m11 : (a3, tupO [x3, y3]) ∈ rest) (m12 : (a4, tupO [x4, y4]) ∈ rest)
    (m14 : (kn, okn) ∈ rest) (i1 : okn.IsDictOf (KS w) [(ks "value", .ref 465)]) (x1' : getL "base_of" esw = some none) (x2' : getL "locals" etf = some (some (.ref lro)))
    (K : ∀ st lr hd li rest0 ohd kr kl, r = .ref st → (∀ p ∈ (lr, listOf #[] kr) :: (hd, ohd) :: rest0, p ∈ post) → S0 w rest0 st lr hd li → ohd.IsDictOf (KI w) [] → (∀ p ∈ rest0, p.1 ≠ lr) → (∀ p ∈ rest0, p.1 ≠ hd) → @Ne Nat lr hd → (∃ rest1, rest0 = (li, listOf #[] kl) :: rest1 ∧ (∀ p ∈ rest1, p.1 ≠ li) ∧ S0 w rest1 st lr hd li ∧ (∀ p ∈ rest, p ∈ rest1)) → @Ne Nat li lr → @Ne Nat hd li → (∀ p ∈ rest, p ∈ rest0) → C) : C := by
  cases P with
  | @mk st dst es nes bx tq led hd ohd cd dcd ecd ncd lr kr lb kb b0 kb0 li kl t0 g1 g2 g3 g4 g5 g6 g7 n1 n2 n3 n4 n5 n6 n7 n8 n9 n10 c1 c2 c3 iD _ _ o0 o1 o2 o3 o4 o5 o6 o7 o8 o9 =>
    have hr : ∀ p ∈ rest, p.1 < dst := o0
    have o1' : @LT.lt Nat _ dst st := o1
    have o2' : @LT.lt Nat _ st bx := o2
    have o3' : @LT.lt Nat _ bx hd := o3
    have o4' : @LT.lt Nat _ hd lb := o4
    have o5' : @LT.lt Nat _ lb dcd := o5
    have o6' : @LT.lt Nat _ dcd cd := o6
    have o7' : @LT.lt Nat _ cd lr := o7
    have o8' : @LT.lt Nat _ lr li := o8
    have o9' : @LT.lt Nat _ li b0 := o9
    have off : ∀ x : Nat, @LE.le Nat _ dst x → ∀ p ∈ rest, p.1 ≠ x := fun x hx p hp e => by
      subst e
      exact Nat.lt_irrefl _ (Nat.lt_of_lt_of_le (hr p hp) hx)
    have S : S0 w ((st, instObj 303 dst) :: (dst, dictOf es nes) :: (cd, instObj 128 dcd) :: (dcd, dictOf ecd ncd) :: (bx, frozO #[(0, .int 0 tq)] 1 (tab1 led)) :: (lb, listOf #[.ref b0] kb) :: (b0, listOf #[.ref li, .none] kb0) :: rest) st lr hd li := by
      have up : ∀ p ∈ rest, p ∈ (st, instObj 303 dst) :: (dst, dictOf es nes) :: (cd, instObj 128 dcd) :: (dcd, dictOf ecd ncd) :: (bx, frozO #[(0, .int 0 tq)] 1 (tab1 led)) :: (lb, listOf #[.ref b0] kb) :: (b0, listOf #[.ref li, .none] kb0) :: rest := (by repeat (first | exact fun _ h => h | refine sub_cons ?_))
      exact .mk (.head _) (.tail _ (.head _)) (up _ m3) (up _ m4) (up _ m5) (up _ m6) (up _ m7) (up _ m8) (up _ m9) (up _ m10) (up _ m11) (up _ m12) (.tail _ (.tail _ (.tail _ (.tail _ (.head _))))) (up _ m14) (.tail _ (.tail _ (.head _))) (.tail _ (.tail _ (.tail _ (.head _)))) (.tail _ (.tail _ (.tail _ (.tail _ (.tail _ (.head _)))))) (.tail _ (.tail _ (.tail _ (.tail _ (.tail _ (.tail _ (.head _))))))) i1 g1 g2 g3 g4 g5 g6 g7 n1 n2 n3 n4 n5 n6 n7 n8 n9 x1' x2' c1 c2 c3 n10
    have q1_3 : @LT.lt Nat _ st hd := Nat.lt_trans o2' o3'
    have q3_5 : @LT.lt Nat _ hd dcd := Nat.lt_trans o4' o5'
    have q4_6 : @LT.lt Nat _ lb cd := Nat.lt_trans o5' o6'
    have q5_7 : @LT.lt Nat _ dcd lr := Nat.lt_trans o6' o7'
    have q6_8 : @LT.lt Nat _ cd li := Nat.lt_trans o7' o8'
    have q7_9 : @LT.lt Nat _ lr b0 := Nat.lt_trans o8' o9'
    have q0_3 : @LT.lt Nat _ dst hd := Nat.lt_trans o1' q1_3
    have q3_6 : @LT.lt Nat _ hd cd := Nat.lt_trans o4' q4_6
    have q4_7 : @LT.lt Nat _ lb lr := Nat.lt_trans o5' q5_7
    have q5_8 : @LT.lt Nat _ dcd li := Nat.lt_trans o6' q6_8
    have q6_9 : @LT.lt Nat _ cd b0 := Nat.lt_trans o7' q7_9
    have q3_7 : @LT.lt Nat _ hd lr := Nat.lt_trans o4' q4_7
    have q4_8 : @LT.lt Nat _ lb li := Nat.lt_trans o5' q5_8
    have q5_9 : @LT.lt Nat _ dcd b0 := Nat.lt_trans o6' q6_9
    have q2_7 : @LT.lt Nat _ bx lr := Nat.lt_trans o3' q3_7
    have q3_8 : @LT.lt Nat _ hd li := Nat.lt_trans o4' q4_8
    have q4_9 : @LT.lt Nat _ lb b0 := Nat.lt_trans o5' q5_9
    have q1_7 : @LT.lt Nat _ st lr := Nat.lt_trans o2' q2_7
    have q2_8 : @LT.lt Nat _ bx li := Nat.lt_trans o3' q3_8
    have q3_9 : @LT.lt Nat _ hd b0 := Nat.lt_trans o4' q4_9
    have q0_7 : @LT.lt Nat _ dst lr := Nat.lt_trans o1' q1_7
    have q1_8 : @LT.lt Nat _ st li := Nat.lt_trans o2' q2_8
    have q0_8 : @LT.lt Nat _ dst li := Nat.lt_trans o1' q1_8
    refine K st lr hd li _ ohd kr kl rfl ?_ (S.mono fun p hp => .tail _ hp) iD (List.forall_mem_cons.mpr ⟨neN (Nat.ne_of_gt o8'), List.forall_mem_cons.mpr ⟨neN (Nat.ne_of_lt q1_7), List.forall_mem_cons.mpr ⟨neN (Nat.ne_of_lt q0_7), List.forall_mem_cons.mpr ⟨neN (Nat.ne_of_lt o7'), List.forall_mem_cons.mpr ⟨neN (Nat.ne_of_lt q5_7), List.forall_mem_cons.mpr ⟨neN (Nat.ne_of_lt q2_7), List.forall_mem_cons.mpr ⟨neN (Nat.ne_of_lt q4_7), List.forall_mem_cons.mpr ⟨neN (Nat.ne_of_gt q7_9), off _ (Nat.le_of_lt q0_7)⟩⟩⟩⟩⟩⟩⟩⟩) (List.forall_mem_cons.mpr ⟨neN (Nat.ne_of_gt q3_8), List.forall_mem_cons.mpr ⟨neN (Nat.ne_of_lt q1_3), List.forall_mem_cons.mpr ⟨neN (Nat.ne_of_lt q0_3), List.forall_mem_cons.mpr ⟨neN (Nat.ne_of_gt q3_6), List.forall_mem_cons.mpr ⟨neN (Nat.ne_of_gt q3_5), List.forall_mem_cons.mpr ⟨neN (Nat.ne_of_lt o3'), List.forall_mem_cons.mpr ⟨neN (Nat.ne_of_gt o4'), List.forall_mem_cons.mpr ⟨neN (Nat.ne_of_gt q3_9), off _ (Nat.le_of_lt q0_3)⟩⟩⟩⟩⟩⟩⟩⟩) (neN (Nat.ne_of_gt q3_7)) ⟨_, rfl, List.forall_mem_cons.mpr ⟨neN (Nat.ne_of_lt q1_8), List.forall_mem_cons.mpr ⟨neN (Nat.ne_of_lt q0_8), List.forall_mem_cons.mpr ⟨neN (Nat.ne_of_lt q6_8), List.forall_mem_cons.mpr ⟨neN (Nat.ne_of_lt q5_8), List.forall_mem_cons.mpr ⟨neN (Nat.ne_of_lt q2_8), List.forall_mem_cons.mpr ⟨neN (Nat.ne_of_lt q4_8), List.forall_mem_cons.mpr ⟨neN (Nat.ne_of_gt o9'), off _ (Nat.le_of_lt q0_8)⟩⟩⟩⟩⟩⟩⟩, S, (by repeat (first | exact fun _ h => h | refine sub_cons ?_))⟩ (neN (Nat.ne_of_gt o8')) (neN (Nat.ne_of_lt q3_8)) (by repeat (first | exact fun _ h => h | refine sub_cons ?_))
    exact List.forall_mem_cons.mpr ⟨(by repeat (first | exact List.Mem.head _ | refine List.Mem.tail _ ?_)), List.forall_mem_cons.mpr ⟨(by repeat (first | exact List.Mem.head _ | refine List.Mem.tail _ ?_)), List.forall_mem_cons.mpr ⟨(by repeat (first | exact List.Mem.head _ | refine List.Mem.tail _ ?_)), List.forall_mem_cons.mpr ⟨(by repeat (first | exact List.Mem.head _ | refine List.Mem.tail _ ?_)), List.forall_mem_cons.mpr ⟨(by repeat (first | exact List.Mem.head _ | refine List.Mem.tail _ ?_)), List.forall_mem_cons.mpr ⟨(by repeat (first | exact List.Mem.head _ | refine List.Mem.tail _ ?_)), List.forall_mem_cons.mpr ⟨(by repeat (first | exact List.Mem.head _ | refine List.Mem.tail _ ?_)), List.forall_mem_cons.mpr ⟨(by repeat (first | exact List.Mem.head _ | refine List.Mem.tail _ ?_)), List.forall_mem_cons.mpr ⟨(by repeat (first | exact List.Mem.head _ | refine List.Mem.tail _ ?_)), List.forall_mem_cons.mpr ⟨(by repeat (first | exact List.Mem.head _ | refine List.Mem.tail _ ?_)), (by repeat (first | exact fun _ h => h | refine sub_cons ?_))⟩⟩⟩⟩⟩⟩⟩⟩⟩⟩
def StP (w : World) (rest : List (Addr × Obj)) (r : Value) (post : List (Addr × Obj)) : Prop := ∃ st lr li rest', r = .ref st ∧ (∀ p ∈ rest, p ∈ rest') ∧ SIn w rest' st lr li ∧ Lv lr li 5 [] rest' post
def formL (m₀ : Str → Option Value) (u : Option Value) : Str → Option Value := fun y => if y = Str.ofString "local" then u else m₀ y
theorem w_C24_0 : True := by
  w_top off
  k_with_none
  k_with "k_all" => (assumption)
  k_with "eval Dict" => (k_here; k_dflt (first
  | (refine' kdn_str ?q ?F ?N ?b ?a ?l ?e ?n ?_; (case q => rfl); (case F => k_asm); (case N => first | k_asm | exact News.nil); (case b => exact Top.nolimit (by k_asm)); (case a => rfl); (case l => rfl); (case e => exact List.cons_ne_nil _ _); (case n => exact Nat.le_of_ble_eq_true rfl))
  | (refine' kdn_int ?q ?F ?N ?b ?a ?l ?e ?n ?_; (case q => rfl); (case F => k_asm); (case N => first | k_asm | exact News.nil); (case b => exact Top.nolimit (by k_asm)); (case a => rfl); (case l => rfl); (case e => exact List.cons_ne_nil _ _); (case n => exact Nat.le_of_ble_eq_true rfl))); intro d' h' o' F' N' l1 lo' hd'; (try k_lt l1))
  k_with "eval Dict nil nil" => (k_here; k_dflt (refine' newDict_K ?k1 ?k2 (TopRead.nolimit (by k_asm)) ?_; (case k1 => k_asm); (case k2 => k_asm); k_whole); intro d' h' o' F' N' l1 lo' hs' fs' hi' fi'; (try k_lt l1); (try k_sweep))
  k_with "ktr_room" => (refine room_of ?_; (try simp +zetaDelta only [depth_under_make, depth_under_kw, depth_in1, depth_deeper]); (try dsimp only [ktrTop]); (first | exact rl1 (by assumption) (by exact rfl) | exact rl2 (by assumption) (by exact rfl) | exact rl3 (by assumption) (by exact rfl) | omega))
  k_with "ktr_enter" => (refine' code_def ?k1 ?k2 ?k3 ?k4 ?k5 ?kA ?kF ?kK ?k6 ?k7 ?k8 ?k9 ?kB ?_ ?c2 ?c3 ?c4 ?c5; (case kA => exact rfl); (case kF => exact rfl); (case kK => first | exact rfl | assumption); (case k1 => k_asm); (case k2 => k_asm); (case k3 => k_asm); (case k4 => k_asm); (case k5 => k_asm); (case k6 => k_is); (case k7 => k_is); (case k8 => ktr_room); (case k9 => first | exact BindsTo.of_eq rfl | exact binds_K (by k_in) rfl (by k_is) rfl rfl rfl); (case c5 => decide); (case kB => exact locs rfl); (case c2 => exact rfl); (case c3 => exact rfl); (case c4 => exact rfl); k_whole; intro g' L' h' FG' F' N' B' X' T'; (try dsimp only); (try k_fold); (try (refine let_enter ?_; intro M1 A1)))
  k_with "call ref" => (k_here; k_dflt (first
  | (refine wpAny_call ?_; ktr_enter)
  | (refine' call_cls0 ?k1 ?k2 ?k3 ?k4 ?k5 ?_; (case k1 => k_asm); (case k2 => k_asm); (case k3 => k_asm); (case k4 => k_is); (case k5 => k_is); k_whole; intro x' d' h' F' N' l1 l2; (try k_lt l1); (try k_lt2 l2); (try k_sweep))
  | (refine' call_cls ?k1 ?k2 ?k3 ?k4 ?k5 ?k6 ?_; (case k1 => k_asm); (case k2 => k_asm); (case k3 => k_asm); (case k4 => k_is); (case k5 => k_is); (case k6 => k_is); k_whole; intro x' d' h' F' N' l1 l2; (try k_lt l1); (try k_lt2 l2); (try k_sweep); ktr_enter)
  | (refine' call_meth ?k1 ?k2 ?_; (case k1 => k_asm); (case k2 => k_mem); k_whole; ktr_enter)))
  k_with "ktr_units" => ((try simp +zetaDelta only [units_in1, units_deeper, Around.mark_units, units_make]); (try dsimp only [ktrTop]); first | exact rl1 (by assumption) (by exact rfl) | exact rl2 (by assumption) (by exact rfl) | exact rl3 (by assumption) (by exact rfl) | omega | ((show _ < (9900 : Nat)); omega))
  k_with "call type:frozenset" => (k_here; k_dflt (refine' fz_call ?F ?N ?m ?d ?z ?_; (case F => k_asm); (case N => k_asm); (case m => k_mem); (case d => k_asm); (case z => k_asm)); intro D' h' tq' led' F' N' l1; (try k_lt l1))
  k_with "compareOp In int ref" => (k_here; k_dflt (refine' fz_in ?N ?m ?_; (case N => k_asm); (case m => k_mem)))
  k_with "call type:list" => (k_here; (with_reducible show wpAny _ _ (call (Value.type "list") [Value.ref _]) _ _ _); k_dflt (refine' list_copyK ?k1 ?k2 ?k3 ?_ ?z; (case k1 => k_asm); (case k2 => k_asm); (case k3 => exact News.isList (by k_asm) (by k_mem)); (case z => first | exact Nat.le_of_ble_eq_true rfl | omega); k_whole); intro D' c' h' F' N' l1; (try k_lt l1); (try k_sweep))
  k_with "k_mem" => (with_reducible kcf_m)
  k_with "k_get" => (with_reducible assumption)
  k_with "call builtin:len" => (k_here; (with_reducible show wpAny _ _ (call (Value.builtin "len") [Value.ref _]) _ _ _); k_dflt (refine' len_arr ?N ?m ?z ?_; (case N => k_asm); (case m => k_mem); (case z => (simp only [Array.size_push, List.size_toArray]; omega))))
  k_with "kcf_m" => (refine via (by assumption) ?_; kcf_m)
  k_with "subscriptTail Name Slice ref ref" => (k_here; (with_reducible show wpAny _ _ (subscriptTail _ _ (Value.ref _) (Value.ref _)) _ _ _); k_dflt (first
  | (refine' tup_head ?F ?N ?m ?h0 ?b ?e ?_ ?s ?t ?z; (case F => k_asm); (case N => k_asm); (case m => k_mem); (case h0 => decide); (case b => first | exact Nat.le_of_ble_eq_true rfl | (simp only [List.length_cons]; omega)); (case e => first | exact tk1 | exact dp1 | exact dp2 | exact rfl); (case s => with_unfolding_all rfl); (case t => kmk_pure); (case z => first | exact Nat.le_of_ble_eq_true rfl | (simp only [List.length_cons]; omega)))
  | (refine' tup_rest ?F ?N ?m ?h0 ?b ?e ?_ ?s ?t ?z; (case F => k_asm); (case N => k_asm); (case m => k_mem); (case h0 => decide); (case b => first | exact Nat.le_of_ble_eq_true rfl | (simp only [List.length_cons]; omega)); (case e => first | exact tk1 | exact dp1 | exact dp2 | exact rfl); (case s => with_unfolding_all rfl); (case t => kmk_pure); (case z => first | exact Nat.le_of_ble_eq_true rfl | (simp only [List.length_cons]; omega)))); intro D' h' F' N' l1; (try k_lt l1); (try k_sweep))
  k_with "subscriptTail" => (k_here; (with_reducible show wpAny _ _ (subscriptTail _ _ (Value.ref _) (Value.int _ _)) _ _ _); k_dflt (first
  | (refine' list_tailL ?N ?m ?a ?b ?x ?_ ?s; (case N => k_asm); (case m => k_mem); (case a => decide); (case b => decide); (case x => first | exact rfl | assumption); (case s => with_unfolding_all rfl))
  | (refine' dict_tail (knd := intKind _ _) ?N ?m ?d ?k ?v ?_ ?s; (case N => k_asm); (case m => k_mem); (case d => with_reducible assumption); (case k => exact intKind_is _ _ _ _); (case v => first | with_reducible assumption | exact rfl); (case s => with_unfolding_all rfl))))
  k_with "subscriptTail" => (k_here; (with_reducible show wpAny _ _ (subscriptTail _ _ (Value.ref _) (Value.str _ _)) _ _ _); k_dflt
  (refine' dict_tail (knd := strKind _ _) ?N ?m ?d ?k ?v ?_ ?s; (case N => k_asm); (case m => k_mem); (case d => with_reducible assumption); (case k => exact strKind_is _ _ _ _); (case v => exact rfl); (case s => with_unfolding_all rfl)))
  k_with "getItem ref str" => (k_here; k_dflt
  (refine' dict_get (knd := strKind _ _) ?N ?m ?d ?k ?v ?_; (case N => k_asm); (case m => k_mem); (case d => with_reducible assumption); (case k => exact strKind_is _ _ _ _); (case v => exact rfl)))
  k_with "compareOp In int ref" => (k_here; k_dflt (refine' fz_in' ?N ?m ?b ?_; (case N => k_asm); (case m => k_mem); (case b => first | assumption | exact rfl)))
  k_with "binaryOp Add ref ref" => (k_here; k_dflt (refine' tup_add ?F ?N ?a ?b ?v ?w ?z ?e ?_; (case F => k_asm); (case N => k_asm); (case a => k_mem); (case b => k_mem); (case v => first | exact List.cons_ne_nil _ _ | assumption); (case w => first | exact List.cons_ne_nil _ _ | assumption); (case z => first | exact Nat.le_of_ble_eq_true rfl | (simp only [List.length_cons, List.length_nil]; omega)); (case e => first | exact ap1 | exact ap2 | exact rfl)); intro D' h' F' N' l1; (try k_lt l1); (try k_sweep))
  k_with "call ref" => (k_here; (with_reducible show wpAny _ _ (call (Value.ref 415) _) _ _ _); k_dflt (refine' runs_use (c_world _ _) ?B ?F ?X ?N ?T ?k ?d ?u ?_; (case B => k_asm); (case F => k_asm); (case X => k_asm); (case N => k_asm); (case T => k_asm); (case k => exact rfl); (case d => ((try simp +zetaDelta only [depth_under_make, depth_under_kw, depth_in1, depth_deeper]); (try dsimp only [ktrTop]); (first | exact rl1 (by assumption) (by exact rfl) | exact rl2 (by assumption) (by exact rfl) | exact rl3 (by assumption) (by exact rfl) | omega))); (case u => ktr_units); intro r9 post9 h9 tk9 F' N' P9; revert P9; (refine ex4 ?_); intro x9 dx9 es9 n9 P9; revert P9; (refine an5 ?_); intro e9 e8 lt9 ltx9 gb9; subst e9; (replace N' := newsEq N' e8); (first | clear e8 post9 | subst e8); (try k_lt lt9); (try k_lt2 ltx9); (try dsimp only); (try k_sweep)))
  k_with "call ref" => (k_here; (with_reducible show wpAny _ _ (call (Value.ref 87) _) _ _ _); k_dflt (refine' runs_use (c_typed _ _ _ _ _ _ _ _ _) ?B ?F ?X ?N ?T ?k ?d ?u ?_; (case B => k_asm); (case F => k_asm); (case X => k_asm); (case N => k_asm); (case T => k_asm); (case k => exact rfl); (case d => ((try simp +zetaDelta only [depth_under_make, depth_under_kw, depth_in1, depth_deeper]); (try dsimp only [ktrTop]); (first | exact rl1 (by assumption) (by exact rfl) | exact rl2 (by assumption) (by exact rfl) | exact rl3 (by assumption) (by exact rfl) | omega))); (case u => ktr_units); intro r9 post9 h9 tk9 F' N' P9; revert P9; (refine ex4 ?_); intro x9 dx9 es9 n9 P9; revert P9; (refine an9 ?_); intro e9 e8 lt9 ltx9 ga9 gb9 gc9 gd9 ge9; subst e9; (replace N' := newsEq N' e8); (first | clear e8 post9 | subst e8); (try k_lt lt9); (try k_lt2 ltx9); (try dsimp only); (try k_sweep)))
  k_with "call ref" => (k_here; (with_reducible show wpAny _ _ (call (Value.ref 303) _) _ _ _); k_dflt (refine' runs_use (c_lower _ _ _ _ _ _ _ _ _ _ _ _ _ _ _ _ ?h1 ?h2 ?h3 ?h4 ?h5 ?h6 ?h7 ?h8 ?h9 ?h10 ?h11 ?h12) ?B ?F ?X ?N ?T ?k ?d ?u ?_; (case B => k_asm); (case F => k_asm); (case X => k_asm); (case N => k_asm); (case h1 => k_mem); (case h2 => k_mem); (case h3 => k_get); (case h4 => k_get); (case h5 => k_get); (case h6 => k_get); (case h7 => k_mem); (case h8 => k_mem); (case h9 => k_mem); (case h10 => k_mem); (case h11 => assumption); (case h12 => with_reducible assumption); (case T => k_asm); (case k => exact rfl); (case d => ((try simp +zetaDelta only [depth_under_make, depth_under_kw, depth_in1, depth_deeper]); (try dsimp only [ktrTop]); (first | exact rl1 (by assumption) (by exact rfl) | exact rl2 (by assumption) (by exact rfl) | exact rl3 (by assumption) (by exact rfl) | omega))); (case u => ktr_units); intro r9 post9 h9 tk9 F' N' P9; (refine' lower_out P9 ?m3 ?m4 ?m5 ?m6 ?m7 ?m8 ?m9 ?m10 ?m11 ?m12 ?m14 ?i1 ?x1 ?x2 ?_; (case m3 => k_mem); (case m4 => k_mem); (case m5 => k_mem); (case m6 => k_mem); (case x1 => with_reducible assumption); (case x2 => with_reducible assumption); (case m7 => k_mem); (case m8 => k_mem); (case m9 => k_mem); (case m10 => k_mem); (case m11 => k_mem); (case m12 => k_mem); (case m14 => k_mem); (case i1 => assumption)); intro st9 lr9 hd9 li9 rest9 ohd9 kr9 kl9 e9 sub9 S9 D9 o1 o2 o3 o4 o5 o6 up9; subst e9; (replace N' := News.sub N' sub9); clear P9 sub9; refine stop_elim ?_; skip))
  k_with "pyIter ref" => (k_here; (with_reducible show wpAny _ _ (pyIter (Value.ref _)) (fun it s₂ => LoopAtV _ _ _ _ _ _ _ _ _ it s₂) _ _); (rename Fr _ _ _ _ => lF'); (rename News _ _ _ _ => lN'); (rename IsRange _ _ _ _ _ _ _ _ => rgX); (with_unfolding_all refine iter_rangeStop (n := 5) (by rfl) rgX (by decide) (by rfl) lF' lN' ?_); clear lF' lN'; intro I1 lI)
  k_with "call ref" => (k_here; (with_reducible show wpAny _ _ (call (Value.ref 223) _) _ _ _); k_dflt (refine' runs_use (take_S ?S ?i ?n ?D ?a ?b ?c) ?B ?F ?X ?N ?T ?k ?d ?u ?_; (case B => k_asm); (case F => k_asm); (case X => k_asm); (case N => k_asm); (case S => assumption); (case i => assumption); (case n => assumption); (case D => assumption); (case a => assumption); (case b => assumption); (case c => assumption); (case T => k_asm); (case k => exact rfl); (case d => ((try simp +zetaDelta only [depth_under_make, depth_under_kw, depth_in1, depth_deeper]); (try dsimp only [ktrTop]); (first | exact rl1 (by assumption) (by exact rfl) | exact rl2 (by assumption) (by exact rfl) | exact rl3 (by assumption) (by exact rfl) | omega))); (case u => ktr_units); intro r9 post9 h9 tk9 F' N' P9; revert P9; (refine ex4 ?_); intro ohd9 tv9 us9 k9 P9; revert P9; (refine an2 ?_); intro sub9 D9; (try dsimp only); (try k_sweep)))
  k_with "eval Call" => (k_fold; (try (refine tok_gen ?_; intro tkz)))
  k_with "eval Call Attribute" => (k_fold; (try (refine tok_gen ?_; intro tkz)))
  k_with "eval Tuple" => (k_fold; (try (refine tok_gen ?_; intro tkz)))
  trivial
theorem formL_self (m : Str → Option Value) : m = formL m (m (Str.ofString "local")) := by
  funext y
  unfold formL
  split
  · subst_vars; rfl
  · rfl
theorem formL_if {m₀ : Str → Option Value} {u v : Option Value} : (fun y => if y = Str.ofString "local" then v else formL m₀ u y) = formL m₀ v := by
  funext y
  unfold formL
  split <;> rfl
def StJ (w : World) (lr hd : Addr) (rest0 : List (Addr × Obj)) (m₀ : Str → Option Value) (i : Nat) (m : Str → Option Value) (news : List (Addr × Obj)) : Prop := ∃ (u : Option Value) (regs : List Value) (kr : Nat) (ohd : Obj) (us : Nat → Tok), m = formL m₀ u ∧ (∀ p ∈ (lr, listOf regs.toArray kr) :: (hd, ohd) :: rest0, p ∈ news) ∧ regs.length = i ∧ ohd.IsDictOf (KI w) (heldF us i)
theorem st_end {w : World} {h₀ h' : Heap} {L lr hd I : Addr} {it : Obj} {rest0 post : List (Addr × Obj)} {m₀ : Str → Option Value} {u v : Option Value} {s₁ : Shared} {tk i k : Nat} {regs : List Value} {tv : Value} {ohd : Obj} {us : Nat → Tok}
    (F : Fr h₀ L h' (fun y => if y = Str.ofString "local" then v else formL m₀ u y)) (N : News h₀ L h' post) (sub : ∀ p ∈ (lr, listOf (regs ++ [tv]).toArray k) :: (hd, ohd) :: (I, it) :: rest0, p ∈ post) (D : ohd.IsDictOf (KI w) (heldF us (i + 1))) (hn : regs.length = i) (i1 : I ≠ lr) (i2 : I ≠ hd) (i3 : ∀ p ∈ rest0, p.1 ≠ I) :
    UnrEnd h₀ L s₁ I it (StJ w lr hd rest0 m₀ (i + 1)) { s₁ with heap := h', toks := tk } :=
  ⟨h', tk, _, (lr, listOf (regs ++ [tv]).toArray k) :: (hd, ohd) :: rest0, rfl, F,
    News.sub N (List.forall_mem_cons.mpr ⟨sub _ (.tail _ (.tail _ (.head _))), List.forall_mem_cons.mpr ⟨sub _ (.head _), List.forall_mem_cons.mpr ⟨sub _ (.tail _ (.head _)), fun p hp => sub p (.tail _ (.tail _ (.tail _ hp)))⟩⟩⟩),
    List.forall_mem_cons.mpr ⟨Ne.symm i1, List.forall_mem_cons.mpr ⟨Ne.symm i2, i3⟩⟩, v, regs ++ [tv], k, ohd, us, formL_if, fun _ h => h, by simp [hn], D⟩
theorem c_state (w : World) (rest : List (Addr × Obj)) : Runs w 458 [] rest 20 120 (StP w rest) := by
  unfold Runs
  k_fill
  intro p loose mean mg mb dp un gd cn cs a ccd cl outer A₀ base h₀ L m s Q E B F X N T hk hd hu ret
  k_steps
  unfold Stop
  k_steps
  unfold Stop
  have i1 : I1 ≠ lr9 := Nat.ne_of_gt (lI _ (.head _))
  have i2 : I1 ≠ hd9 := Nat.ne_of_gt (lI _ (.tail _ (.head _)))
  have i3 : ∀ p ∈ rest9, p.1 ≠ I1 := fun p hp => Nat.ne_of_lt (lI p (.tail _ (.tail _ hp)))
  refine range_inv (StJ w lr9 hd9 rest9 _) ?turn ?done 5 0 _ _ rfl ⟨_, [], kr9, ohd9, fun _ => 0, formL_self _, fun _ h => h, rfl, D9⟩
  case turn =>
    intro i m news hi HJ
    revert HJ
    refine ex5 ?_
    intro u regs kr ohd us HJ
    revert HJ
    refine an4 ?_
    intro em hs hn hD
    subst em
    intro t h tk F' N'
    obtain ⟨it, hit⟩ : ∃ it, it = itR (0 + ((i + 1 : Nat) : Int)) (((5 : Nat) : Int) - ((i + 1 : Nat) : Int)) := ⟨_, rfl⟩
    rw [← hit] at N' ⊢
    have N2 : News _ _ h ((lr9, listOf regs.toArray kr) :: (hd9, ohd) :: (I1, it) :: rest9) := News.sub N' (List.forall_mem_cons.mpr ⟨.tail _ (hs _ (.head _)), List.forall_mem_cons.mpr ⟨.tail _ (hs _ (.tail _ (.head _))), List.forall_mem_cons.mpr ⟨.head _, fun p hp => .tail _ (hs p (.tail _ (.tail _ hp)))⟩⟩⟩)
    clear N' hs
    have S2 : S0 w ((I1, it) :: rest9) st9 lr9 hd9 li9 := S9.mono fun _ hp => .tail _ hp
    have j1 : ∀ p ∈ (I1, it) :: rest9, p.1 ≠ lr9 := List.forall_mem_cons.mpr ⟨i1, o1⟩
    have j2 : ∀ p ∈ (I1, it) :: rest9, p.1 ≠ hd9 := List.forall_mem_cons.mpr ⟨i2, o2⟩
    have S3 := S2
    obtain ⟨m1, m2, m3, m4, m5, m6, m7, m8, m9, m10, m11, m12, m13, m14, m15, m16, m17, m18, iS, g1, g2, g3, g4, g5, g6, g7, n1, n2, n3, n4, n5, n6, n7, n8, n9, x1, x2, x3, x4, x5, x6⟩ := S3
    k_steps
    (try dsimp only [UnrPost])
    refine' st_end ?F ?N sub9 D9 hn i1 i2 i3
    case F => k_asm
    case N => k_asm
  case done =>
    intro m news HJ
    revert HJ
    refine ex5 ?_
    intro u regs kr ohd us HJ
    revert HJ
    refine an4 ?_
    intro em hs hn hD
    subst em
    intro h tk F' N'
    have N2 := News.sub N' hs
    clear N'
    k_steps
    obtain ⟨rest1, e, r1, S1, u1⟩ := o4
    subst e
    refine ret _ _ _ _ (by k_asm) (by k_asm) ⟨st9, lr9, li9, (hd9, ohd) :: rest1, rfl, fun p hp => .tail _ (u1 p ((by kat_tups : ∀ p ∈ rest, p ∈ _) p hp)), S1.held hD, .mk (regs := regs) (rows := []) (kr := kr) (kl := kl9) ?_ hn .nil ?_ ?_ (Ne.symm o5)⟩
    · exact List.forall_mem_cons.mpr ⟨.head _, List.forall_mem_cons.mpr ⟨.tail _ (.tail _ (.head _)), List.forall_mem_cons.mpr ⟨.tail _ (.head _), fun p hp => .tail _ (.tail _ (.tail _ hp))⟩⟩⟩
    · exact List.forall_mem_cons.mpr ⟨Ne.symm o3, fun p hp => o1 p (.tail _ hp)⟩
    · exact List.forall_mem_cons.mpr ⟨o6, r1⟩
theorem c_bkN {w : World} {rest pre : List (Addr × Obj)} {db lb : Addr} {n : Nat} {ds : List Dat} {v : Value} {k : Num} (V : BLv w db lb n ds rest pre) (hv : NumIn rest v k) (hy : ds.length ≤ 800) :
  Runs w 493 [.ref db, v] pre 10 80 (BPost w db lb rest (n + (k.rows n).length) (ds ++ k.rows n) (k.keep n)) := by
  cases hv with
  | loc h => exact c_bkL V h hy
  | @cst a t t' t'' k h =>
    have := c_bkC V h t420 (.int t'' rfl : TIn (TL ++ rest) (.int k t'') (.int k))
    simpa [Num.rows, Num.keep] using this
theorem w_C28_0 : True := by
  w_top off
  k_with_none
  k_with "k_all" => (assumption)
  k_with "eval Dict" => (k_here; k_dflt (first
  | (refine' kdn_str ?q ?F ?N ?b ?a ?l ?e ?n ?_; (case q => rfl); (case F => k_asm); (case N => first | k_asm | exact News.nil); (case b => exact Top.nolimit (by k_asm)); (case a => rfl); (case l => rfl); (case e => exact List.cons_ne_nil _ _); (case n => exact Nat.le_of_ble_eq_true rfl))
  | (refine' kdn_int ?q ?F ?N ?b ?a ?l ?e ?n ?_; (case q => rfl); (case F => k_asm); (case N => first | k_asm | exact News.nil); (case b => exact Top.nolimit (by k_asm)); (case a => rfl); (case l => rfl); (case e => exact List.cons_ne_nil _ _); (case n => exact Nat.le_of_ble_eq_true rfl))); intro d' h' o' F' N' l1 lo' hd'; (try k_lt l1))
  k_with "eval Dict nil nil" => (k_here; k_dflt (refine' newDict_K ?k1 ?k2 (TopRead.nolimit (by k_asm)) ?_; (case k1 => k_asm); (case k2 => k_asm); k_whole); intro d' h' o' F' N' l1 lo' hs' fs' hi' fi'; (try k_lt l1); (try k_sweep))
  k_with "ktr_room" => (refine room_of ?_; (try simp +zetaDelta only [depth_under_make, depth_under_kw, depth_in1, depth_deeper]); (try dsimp only [ktrTop]); (first | exact rl1 (by assumption) (by exact rfl) | exact rl2 (by assumption) (by exact rfl) | exact rl3 (by assumption) (by exact rfl) | omega))
  k_with "ktr_enter" => (refine' code_def ?k1 ?k2 ?k3 ?k4 ?k5 ?kA ?kF ?kK ?k6 ?k7 ?k8 ?k9 ?kB ?_ ?c2 ?c3 ?c4 ?c5; (case kA => exact rfl); (case kF => exact rfl); (case kK => first | exact rfl | assumption); (case k1 => k_asm); (case k2 => k_asm); (case k3 => k_asm); (case k4 => k_asm); (case k5 => k_asm); (case k6 => k_is); (case k7 => k_is); (case k8 => ktr_room); (case k9 => first | exact BindsTo.of_eq rfl | exact binds_K (by k_in) rfl (by k_is) rfl rfl rfl); (case c5 => decide); (case kB => exact locs rfl); (case c2 => exact rfl); (case c3 => exact rfl); (case c4 => exact rfl); k_whole; intro g' L' h' FG' F' N' B' X' T'; (try dsimp only); (try k_fold); (try (refine let_enter ?_; intro M1 A1)))
  k_with "call ref" => (k_here; k_dflt (first
  | (refine wpAny_call ?_; ktr_enter)
  | (refine' call_cls0 ?k1 ?k2 ?k3 ?k4 ?k5 ?_; (case k1 => k_asm); (case k2 => k_asm); (case k3 => k_asm); (case k4 => k_is); (case k5 => k_is); k_whole; intro x' d' h' F' N' l1 l2; (try k_lt l1); (try k_lt2 l2); (try k_sweep))
  | (refine' call_cls ?k1 ?k2 ?k3 ?k4 ?k5 ?k6 ?_; (case k1 => k_asm); (case k2 => k_asm); (case k3 => k_asm); (case k4 => k_is); (case k5 => k_is); (case k6 => k_is); k_whole; intro x' d' h' F' N' l1 l2; (try k_lt l1); (try k_lt2 l2); (try k_sweep); ktr_enter)
  | (refine' call_meth ?k1 ?k2 ?_; (case k1 => k_asm); (case k2 => k_mem); k_whole; ktr_enter)))
  k_with "ktr_units" => ((try simp +zetaDelta only [units_in1, units_deeper, Around.mark_units, units_make]); (try dsimp only [ktrTop]); first | exact rl1 (by assumption) (by exact rfl) | exact rl2 (by assumption) (by exact rfl) | exact rl3 (by assumption) (by exact rfl) | omega | ((show _ < (9900 : Nat)); omega))
  k_with "call type:frozenset" => (k_here; k_dflt (refine' fz_call ?F ?N ?m ?d ?z ?_; (case F => k_asm); (case N => k_asm); (case m => k_mem); (case d => k_asm); (case z => k_asm)); intro D' h' tq' led' F' N' l1; (try k_lt l1))
  k_with "compareOp In int ref" => (k_here; k_dflt (refine' fz_in ?N ?m ?_; (case N => k_asm); (case m => k_mem)))
  k_with "call type:list" => (k_here; (with_reducible show wpAny _ _ (call (Value.type "list") [Value.ref _]) _ _ _); k_dflt (refine' list_copyK ?k1 ?k2 ?k3 ?_ ?z; (case k1 => k_asm); (case k2 => k_asm); (case k3 => exact News.isList (by k_asm) (by k_mem)); (case z => first | exact Nat.le_of_ble_eq_true rfl | omega); k_whole); intro D' c' h' F' N' l1; (try k_lt l1); (try k_sweep))
  k_with "k_mem" => (with_reducible kcf_m)
  k_with "k_get" => (with_reducible assumption)
  k_with "call builtin:len" => (k_here; (with_reducible show wpAny _ _ (call (Value.builtin "len") [Value.ref _]) _ _ _); k_dflt (refine' len_arr ?N ?m ?z ?_; (case N => k_asm); (case m => k_mem); (case z => (simp only [Array.size_push, List.size_toArray]; omega))))
  k_with "kcf_m" => (refine via (by assumption) ?_; kcf_m)
  k_with "subscriptTail Name Slice ref ref" => (k_here; (with_reducible show wpAny _ _ (subscriptTail _ _ (Value.ref _) (Value.ref _)) _ _ _); k_dflt (first
  | (refine' tup_head ?F ?N ?m ?h0 ?b ?e ?_ ?s ?t ?z; (case F => k_asm); (case N => k_asm); (case m => k_mem); (case h0 => decide); (case b => first | exact Nat.le_of_ble_eq_true rfl | (simp only [List.length_cons]; omega)); (case e => first | exact tk1 | exact dp1 | exact dp2 | exact rfl); (case s => with_unfolding_all rfl); (case t => kmk_pure); (case z => first | exact Nat.le_of_ble_eq_true rfl | (simp only [List.length_cons]; omega)))
  | (refine' tup_rest ?F ?N ?m ?h0 ?b ?e ?_ ?s ?t ?z; (case F => k_asm); (case N => k_asm); (case m => k_mem); (case h0 => decide); (case b => first | exact Nat.le_of_ble_eq_true rfl | (simp only [List.length_cons]; omega)); (case e => first | exact tk1 | exact dp1 | exact dp2 | exact rfl); (case s => with_unfolding_all rfl); (case t => kmk_pure); (case z => first | exact Nat.le_of_ble_eq_true rfl | (simp only [List.length_cons]; omega)))); intro D' h' F' N' l1; (try k_lt l1); (try k_sweep))
  k_with "subscriptTail" => (k_here; (with_reducible show wpAny _ _ (subscriptTail _ _ (Value.ref _) (Value.int _ _)) _ _ _); k_dflt (first
  | (refine' list_tailL ?N ?m ?a ?b ?x ?_ ?s; (case N => k_asm); (case m => k_mem); (case a => decide); (case b => decide); (case x => first | exact rfl | assumption); (case s => with_unfolding_all rfl))
  | (refine' dict_tail (knd := intKind _ _) ?N ?m ?d ?k ?v ?_ ?s; (case N => k_asm); (case m => k_mem); (case d => with_reducible assumption); (case k => exact intKind_is _ _ _ _); (case v => first | with_reducible assumption | exact rfl); (case s => with_unfolding_all rfl))))
  k_with "subscriptTail" => (k_here; (with_reducible show wpAny _ _ (subscriptTail _ _ (Value.ref _) (Value.str _ _)) _ _ _); k_dflt
  (refine' dict_tail (knd := strKind _ _) ?N ?m ?d ?k ?v ?_ ?s; (case N => k_asm); (case m => k_mem); (case d => with_reducible assumption); (case k => exact strKind_is _ _ _ _); (case v => exact rfl); (case s => with_unfolding_all rfl)))
  k_with "getItem ref str" => (k_here; k_dflt
  (refine' dict_get (knd := strKind _ _) ?N ?m ?d ?k ?v ?_; (case N => k_asm); (case m => k_mem); (case d => with_reducible assumption); (case k => exact strKind_is _ _ _ _); (case v => exact rfl)))
  k_with "compareOp In int ref" => (k_here; k_dflt (refine' fz_in' ?N ?m ?b ?_; (case N => k_asm); (case m => k_mem); (case b => first | assumption | exact rfl)))
  k_with "binaryOp Add ref ref" => (k_here; k_dflt (refine' tup_add ?F ?N ?a ?b ?v ?w ?z ?e ?_; (case F => k_asm); (case N => k_asm); (case a => k_mem); (case b => k_mem); (case v => first | exact List.cons_ne_nil _ _ | assumption); (case w => first | exact List.cons_ne_nil _ _ | assumption); (case z => first | exact Nat.le_of_ble_eq_true rfl | (simp only [List.length_cons, List.length_nil]; omega)); (case e => first | exact ap1 | exact ap2 | exact rfl)); intro D' h' F' N' l1; (try k_lt l1); (try k_sweep))
  k_with "newTuple" => (k_here; k_dflt (refine' kup_newTuple ?F ?N ?_ ?z; (case F => k_asm); (case N => k_asm); (case z => kmk_size)); intro D' h' F' N' l1; (try k_sweep))
  k_with "k_offL" => (first | omega | ((try simp only [List.length_append, List.length_cons, List.length_nil]); omega))
  k_with "subscriptTail" => (k_here; (with_reducible show wpAny _ _ (subscriptTail _ _ (Value.ref _) (Value.int 0 _)) _ _ _); k_dflt (refine' tin_sub0 ?F ?X ?N ?T ?_ ?s; (case F => k_asm); (case X => k_asm); (case N => k_asm); (case T => (refine TIn.up (by assumption) ?_; kat_tups)); (case s => with_unfolding_all rfl)); intro t0')
  k_with "subscriptTail" => (k_here; (with_reducible show wpAny _ _ (subscriptTail _ _ (Value.ref _) (Value.int _ _)) _ _ _); k_dflt (refine' tup_item ?N ?m ?a ?b ?x ?_ ?s; (case N => k_asm); (case m => k_mem); (case a => decide); (case b => decide); (case x => exact rfl); (case s => with_unfolding_all rfl)))
  k_with "binaryOp Add ref ref" => (k_here; k_dflt (refine' snoc_add ?F ?N ?V ?a ?b ?z ?_; (case F => k_asm); (case N => k_asm); (case V => ktu_offI); (case a => k_mem); (case b => k_mem); (case z => first | exact Nat.le_of_ble_eq_true rfl | exact steps_small (by assumption) (by k_offL))); intro D' h' rest9 news9 F' N' up9 V9 m9 sub9; (try k_sweep))
  k_with "compareOp Eq ref ref" => (k_here; (with_reducible show wpAny _ _ (compareOp _ (Value.ref _) (Value.ref 430)) _ _ _); k_dflt (refine' ty_eq_slice ?F ?X ?N ?h ?b ?u ?_; (case F => k_asm); (case X => k_asm); (case N => k_asm); (case h => first | exact TyIn.slice | (refine TyIn.mono ?_ (by assumption); kat_tups)); (case b => first | assumption | exact rfl); (case u => ktr_units)))
  k_with "compareOp NotEq ref ref" => (k_here; (with_reducible show wpAny _ _ (compareOp _ (Value.ref _) (Value.ref 430)) _ _ _); k_dflt (first | (refine' slice_ne ?F ?X ?N ?u ?_; (case F => k_asm); (case X => k_asm); (case N => k_asm); (case u => ktr_units)) | (refine' ty_ne_slice ?F ?X ?N ?h ?b ?u ?_; (case F => k_asm); (case X => k_asm); (case N => k_asm); (case h => (refine TyIn.mono ?_ (by assumption); kat_tups)); (case b => assumption); (case u => ktr_units))))
  k_with "binaryOp Add ref ref" => (k_here; k_dflt (refine' bsnoc_add ?F ?N ?V ?a ?b ?z ?_; (case F => k_asm); (case N => k_asm); (case V => ktu_offI); (case a => k_mem); (case b => k_mem); (case z => first | exact Nat.le_of_ble_eq_true rfl | exact steps_small (by assumption) (by k_offL))); intro D' h' rest9 news9 F' N' up9 V9 m9 sub9; (try k_sweep))
  k_with "call ref" => (k_here; (with_reducible show wpAny _ _ (call (Value.ref 493) _) _ _ _); k_dflt (refine' runs_use (c_bkC ?V ?hm ?hT ?hX) ?B ?F ?X ?N ?T ?k ?d ?u ?_; (case B => k_asm); (case F => k_asm); (case X => k_asm); (case N => k_asm);(case V => ktu_offI); (case hm => k_mem); (case hT => kqd_in); (case hX => kqd_in); (case T => k_asm); (case k => exact rfl); (case d => ((try simp +zetaDelta only [depth_under_make, depth_under_kw, depth_in1, depth_deeper]); (try dsimp only [ktrTop]); (first | exact rl1 (by assumption) (by exact rfl) | exact rl2 (by assumption) (by exact rfl) | exact rl3 (by assumption) (by exact rfl) | omega))); (case u => ktr_units); intro r9 post9 h9 tk9 F' N' P9; revert P9; (refine ex1 ?_); intro rest9 P9; revert P9; (refine an3 ?_); intro up9 V9 T9; have sub9 := V9.sub; (try dsimp only); (try k_sweep)))
  k_with "call ref" => (k_here; (with_reducible show wpAny _ _ (call (Value.ref 493) _) _ _ _); k_dflt (refine' runs_use (c_bkL ?V ?hm ?hy) ?B ?F ?X ?N ?T ?k ?d ?u ?_; (case B => k_asm); (case F => k_asm); (case X => k_asm); (case N => k_asm);(case V => ktu_offI); (case hm => k_mem); (case hy => k_offL); (case T => k_asm); (case k => exact rfl); (case d => ((try simp +zetaDelta only [depth_under_make, depth_under_kw, depth_in1, depth_deeper]); (try dsimp only [ktrTop]); (first | exact rl1 (by assumption) (by exact rfl) | exact rl2 (by assumption) (by exact rfl) | exact rl3 (by assumption) (by exact rfl) | omega))); (case u => ktr_units); intro r9 post9 h9 tk9 F' N' P9; revert P9; (refine ex1 ?_); intro rest9 P9; revert P9; (refine an3 ?_); intro up9 V9 T9; have sub9 := V9.sub; (try dsimp only); (try k_sweep)))
  k_with "eval Call" => (k_fold; (try (refine tok_gen ?_; intro tkz)))
  k_with "eval Call Attribute" => (k_fold; (try (refine tok_gen ?_; intro tkz)))
  k_with "eval Tuple" => (k_fold; (try (refine tok_gen ?_; intro tkz)))
  trivial
theorem bw_v0 {w : World} {rest : List (Addr × Obj)} {db lb e : Addr} {t t' t'' : Tok} {v : Value} {τ : Ty} (hm : (e, tupO [sv "local" t, v, .int 0 t', .int 0 t'']) ∈ rest) : BWayC w db lb rest (.ref e) (.v0 τ) := by
  intro rest' pre n ds up0 V hz hy
  simp only [Pl.size] at hz hy
  have sub0 := V.sub
  unfold Runs
  k_fill
  intro p loose mean mg mb dp un gd cn cs a ccd cl outer A₀ base h₀ L m s Q E B F X N T hk hd hu ret
  simp only [Pl.size] at hd hu
  k_steps
  refine' ret _ _ _ _ ?F ?N (bwpost ?V ?hn ?hd ?up (WayIn.mk ?a ?b ?c ?d))
  case F => k_asm
  case N => k_asm
  case V => ktu_offI
  case hn => first | rfl | (simp only [Pl.way, List.length_append, List.length_cons]; omega)
  case hd => first | rfl | (simp [Pl.way]; done)
  case up => kat_tups
  case a => k_mem
  case b => k_mem
  case c => kqd_in
  case d => (try simp only [Pl.way]); kqd_all
theorem bw_glob {w : World} {rest : List (Addr × Obj)} {db lb e : Addr} {t t' t'' : Tok} {v : Value} {τ : Ty} (hm : (e, tupO [sv "global" t, v, .int 0 t', sv "m.g" t'']) ∈ rest) (hv : TyIn rest v τ) : BWayC w db lb rest (.ref e) (.glob τ) := by
  intro rest' pre n ds up0 V hz hy
  simp only [Pl.size] at hz hy
  have sub0 := V.sub
  unfold Runs
  k_fill
  intro p loose mean mg mb dp un gd cn cs a ccd cl outer A₀ base h₀ L m s Q E B F X N T hk hd hu ret
  simp only [Pl.size] at hd hu
  k_steps
  refine' ret _ _ _ _ ?F ?N (bwpost ?V ?hn ?hd ?up (WayIn.mk ?a ?b ?c ?d))
  case F => k_asm
  case N => k_asm
  case V => ktu_offI
  case hn => first | rfl | (simp only [Pl.way, List.length_append, List.length_cons]; omega)
  case hd => first | rfl | (simp [Pl.way]; done)
  case up => kat_tups
  case a => k_mem
  case b => k_mem
  case c => kqd_in
  case d => (try simp only [Pl.way]); kqd_all
theorem bw_dc {w : World} {rest : List (Addr × Obj)} {db lb e : Addr} {t t' t1 t2 t3 t4 t5 : Tok} {v : Value} {τ : Ty} {b c d e' : Addr} (hm : (e, tupO [sv "deref" t, v, .int 0 t', .ref b]) ∈ rest) (h1 : (b, tupO [sv "const" t1, .ref c, .int 0 t2, .ref d]) ∈ rest) (h2 : (c, tupO [sv "ptr" t3, .ref 420]) ∈ rest) (h3 : (d, tupO [sv "ptr" t4, .int 5 t5, .ref e']) ∈ rest) (h4 : (e', tupO []) ∈ rest) : BWayC w db lb rest (.ref e) (.dc τ) := by
  intro rest' pre n ds up0 V hz hy
  simp only [Pl.size] at hz hy
  have sub0 := V.sub
  unfold Runs
  k_fill
  intro p loose mean mg mb dp un gd cn cs a ccd cl outer A₀ base h₀ L m s Q E B F X N T hk hd hu ret
  simp only [Pl.size] at hd hu
  k_steps
  refine' ret _ _ _ _ ?F ?N (bwpost ?V ?hn ?hd ?up (WayIn.mk ?a ?b ?c ?d))
  case F => k_asm
  case N => k_asm
  case V => ktu_offI
  case hn => first | rfl | (simp only [Pl.way, List.length_append, List.length_cons]; omega)
  case hd => first | rfl | (simp [Pl.way]; done)
  case up => kat_tups
  case a => k_mem
  case b => k_mem
  case c => kqd_in
  case d => (try simp only [Pl.way]); kqd_all
theorem bw_dl {w : World} {rest : List (Addr × Obj)} {db lb e : Addr} {t t' t1 t2 t3 : Tok} {v c : Value} {τ : Ty} {b : Addr} (hm : (e, tupO [sv "deref" t, v, .int 0 t', .ref b]) ∈ rest) (h1 : (b, tupO [sv "local" t1, c, .int 0 t2, .int 2 t3]) ∈ rest) : BWayC w db lb rest (.ref e) (.dl τ) := by
  intro rest' pre n ds up0 V hz hy
  simp only [Pl.size] at hz hy
  have sub0 := V.sub
  unfold Runs
  k_fill
  intro p loose mean mg mb dp un gd cn cs a ccd cl outer A₀ base h₀ L m s Q E B F X N T hk hd hu ret
  simp only [Pl.size] at hd hu
  k_steps
  refine' ret _ _ _ _ ?F ?N (bwpost ?V ?hn ?hd ?up (WayIn.mk ?a ?b ?c ?d))
  case F => k_asm
  case N => k_asm
  case V => ktu_offI
  case hn => first | rfl | (simp only [Pl.way, List.length_append, List.length_cons]; omega)
  case hd => first | rfl | (simp [Pl.way]; done)
  case up => kat_tups
  case a => k_mem
  case b => k_mem
  case c => kqd_in
  case d => (try simp only [Pl.way]); kqd_all
theorem w_C29_0 : True := by
  w_top off
  k_with_none
  k_with "k_all" => (assumption)
  k_with "eval Dict" => (k_here; k_dflt (first
  | (refine' kdn_str ?q ?F ?N ?b ?a ?l ?e ?n ?_; (case q => rfl); (case F => k_asm); (case N => first | k_asm | exact News.nil); (case b => exact Top.nolimit (by k_asm)); (case a => rfl); (case l => rfl); (case e => exact List.cons_ne_nil _ _); (case n => exact Nat.le_of_ble_eq_true rfl))
  | (refine' kdn_int ?q ?F ?N ?b ?a ?l ?e ?n ?_; (case q => rfl); (case F => k_asm); (case N => first | k_asm | exact News.nil); (case b => exact Top.nolimit (by k_asm)); (case a => rfl); (case l => rfl); (case e => exact List.cons_ne_nil _ _); (case n => exact Nat.le_of_ble_eq_true rfl))); intro d' h' o' F' N' l1 lo' hd'; (try k_lt l1))
  k_with "eval Dict nil nil" => (k_here; k_dflt (refine' newDict_K ?k1 ?k2 (TopRead.nolimit (by k_asm)) ?_; (case k1 => k_asm); (case k2 => k_asm); k_whole); intro d' h' o' F' N' l1 lo' hs' fs' hi' fi'; (try k_lt l1); (try k_sweep))
  k_with "ktr_room" => (refine room_of ?_; (try simp +zetaDelta only [depth_under_make, depth_under_kw, depth_in1, depth_deeper]); (try dsimp only [ktrTop]); (first | exact rl1 (by assumption) (by exact rfl) | exact rl2 (by assumption) (by exact rfl) | exact rl3 (by assumption) (by exact rfl) | omega))
  k_with "ktr_enter" => (refine' code_def ?k1 ?k2 ?k3 ?k4 ?k5 ?kA ?kF ?kK ?k6 ?k7 ?k8 ?k9 ?kB ?_ ?c2 ?c3 ?c4 ?c5; (case kA => exact rfl); (case kF => exact rfl); (case kK => first | exact rfl | assumption); (case k1 => k_asm); (case k2 => k_asm); (case k3 => k_asm); (case k4 => k_asm); (case k5 => k_asm); (case k6 => k_is); (case k7 => k_is); (case k8 => ktr_room); (case k9 => first | exact BindsTo.of_eq rfl | exact binds_K (by k_in) rfl (by k_is) rfl rfl rfl); (case c5 => decide); (case kB => exact locs rfl); (case c2 => exact rfl); (case c3 => exact rfl); (case c4 => exact rfl); k_whole; intro g' L' h' FG' F' N' B' X' T'; (try dsimp only); (try k_fold); (try (refine let_enter ?_; intro M1 A1)))
  k_with "call ref" => (k_here; k_dflt (first
  | (refine wpAny_call ?_; ktr_enter)
  | (refine' call_cls0 ?k1 ?k2 ?k3 ?k4 ?k5 ?_; (case k1 => k_asm); (case k2 => k_asm); (case k3 => k_asm); (case k4 => k_is); (case k5 => k_is); k_whole; intro x' d' h' F' N' l1 l2; (try k_lt l1); (try k_lt2 l2); (try k_sweep))
  | (refine' call_cls ?k1 ?k2 ?k3 ?k4 ?k5 ?k6 ?_; (case k1 => k_asm); (case k2 => k_asm); (case k3 => k_asm); (case k4 => k_is); (case k5 => k_is); (case k6 => k_is); k_whole; intro x' d' h' F' N' l1 l2; (try k_lt l1); (try k_lt2 l2); (try k_sweep); ktr_enter)
  | (refine' call_meth ?k1 ?k2 ?_; (case k1 => k_asm); (case k2 => k_mem); k_whole; ktr_enter)))
  k_with "ktr_units" => ((try simp +zetaDelta only [units_in1, units_deeper, Around.mark_units, units_make]); (try dsimp only [ktrTop]); first | exact rl1 (by assumption) (by exact rfl) | exact rl2 (by assumption) (by exact rfl) | exact rl3 (by assumption) (by exact rfl) | omega | ((show _ < (9900 : Nat)); omega))
  k_with "call type:frozenset" => (k_here; k_dflt (refine' fz_call ?F ?N ?m ?d ?z ?_; (case F => k_asm); (case N => k_asm); (case m => k_mem); (case d => k_asm); (case z => k_asm)); intro D' h' tq' led' F' N' l1; (try k_lt l1))
  k_with "compareOp In int ref" => (k_here; k_dflt (refine' fz_in ?N ?m ?_; (case N => k_asm); (case m => k_mem)))
  k_with "call type:list" => (k_here; (with_reducible show wpAny _ _ (call (Value.type "list") [Value.ref _]) _ _ _); k_dflt (refine' list_copyK ?k1 ?k2 ?k3 ?_ ?z; (case k1 => k_asm); (case k2 => k_asm); (case k3 => exact News.isList (by k_asm) (by k_mem)); (case z => first | exact Nat.le_of_ble_eq_true rfl | omega); k_whole); intro D' c' h' F' N' l1; (try k_lt l1); (try k_sweep))
  k_with "k_mem" => (with_reducible kcf_m)
  k_with "k_get" => (with_reducible assumption)
  k_with "call builtin:len" => (k_here; (with_reducible show wpAny _ _ (call (Value.builtin "len") [Value.ref _]) _ _ _); k_dflt (refine' len_arr ?N ?m ?z ?_; (case N => k_asm); (case m => k_mem); (case z => (simp only [Array.size_push, List.size_toArray]; omega))))
  k_with "kcf_m" => (refine via (by assumption) ?_; kcf_m)
  k_with "subscriptTail Name Slice ref ref" => (k_here; (with_reducible show wpAny _ _ (subscriptTail _ _ (Value.ref _) (Value.ref _)) _ _ _); k_dflt (first
  | (refine' tup_head ?F ?N ?m ?h0 ?b ?e ?_ ?s ?t ?z; (case F => k_asm); (case N => k_asm); (case m => k_mem); (case h0 => decide); (case b => first | exact Nat.le_of_ble_eq_true rfl | (simp only [List.length_cons]; omega)); (case e => first | exact tk1 | exact dp1 | exact dp2 | exact rfl); (case s => with_unfolding_all rfl); (case t => kmk_pure); (case z => first | exact Nat.le_of_ble_eq_true rfl | (simp only [List.length_cons]; omega)))
  | (refine' tup_rest ?F ?N ?m ?h0 ?b ?e ?_ ?s ?t ?z; (case F => k_asm); (case N => k_asm); (case m => k_mem); (case h0 => decide); (case b => first | exact Nat.le_of_ble_eq_true rfl | (simp only [List.length_cons]; omega)); (case e => first | exact tk1 | exact dp1 | exact dp2 | exact rfl); (case s => with_unfolding_all rfl); (case t => kmk_pure); (case z => first | exact Nat.le_of_ble_eq_true rfl | (simp only [List.length_cons]; omega)))); intro D' h' F' N' l1; (try k_lt l1); (try k_sweep))
  k_with "subscriptTail" => (k_here; (with_reducible show wpAny _ _ (subscriptTail _ _ (Value.ref _) (Value.int _ _)) _ _ _); k_dflt (first
  | (refine' list_tailL ?N ?m ?a ?b ?x ?_ ?s; (case N => k_asm); (case m => k_mem); (case a => decide); (case b => decide); (case x => first | exact rfl | assumption); (case s => with_unfolding_all rfl))
  | (refine' dict_tail (knd := intKind _ _) ?N ?m ?d ?k ?v ?_ ?s; (case N => k_asm); (case m => k_mem); (case d => with_reducible assumption); (case k => exact intKind_is _ _ _ _); (case v => first | with_reducible assumption | exact rfl); (case s => with_unfolding_all rfl))))
  k_with "subscriptTail" => (k_here; (with_reducible show wpAny _ _ (subscriptTail _ _ (Value.ref _) (Value.str _ _)) _ _ _); k_dflt
  (refine' dict_tail (knd := strKind _ _) ?N ?m ?d ?k ?v ?_ ?s; (case N => k_asm); (case m => k_mem); (case d => with_reducible assumption); (case k => exact strKind_is _ _ _ _); (case v => exact rfl); (case s => with_unfolding_all rfl)))
  k_with "getItem ref str" => (k_here; k_dflt
  (refine' dict_get (knd := strKind _ _) ?N ?m ?d ?k ?v ?_; (case N => k_asm); (case m => k_mem); (case d => with_reducible assumption); (case k => exact strKind_is _ _ _ _); (case v => exact rfl)))
  k_with "compareOp In int ref" => (k_here; k_dflt (refine' fz_in' ?N ?m ?b ?_; (case N => k_asm); (case m => k_mem); (case b => first | assumption | exact rfl)))
  k_with "binaryOp Add ref ref" => (k_here; k_dflt (refine' tup_add ?F ?N ?a ?b ?v ?w ?z ?e ?_; (case F => k_asm); (case N => k_asm); (case a => k_mem); (case b => k_mem); (case v => first | exact List.cons_ne_nil _ _ | assumption); (case w => first | exact List.cons_ne_nil _ _ | assumption); (case z => first | exact Nat.le_of_ble_eq_true rfl | (simp only [List.length_cons, List.length_nil]; omega)); (case e => first | exact ap1 | exact ap2 | exact rfl)); intro D' h' F' N' l1; (try k_lt l1); (try k_sweep))
  k_with "newTuple" => (k_here; k_dflt (refine' kup_newTuple ?F ?N ?_ ?z; (case F => k_asm); (case N => k_asm); (case z => kmk_size)); intro D' h' F' N' l1; (try k_sweep))
  k_with "k_offL" => (first | omega | ((try simp only [List.length_append, List.length_cons, List.length_nil]); omega))
  k_with "subscriptTail" => (k_here; (with_reducible show wpAny _ _ (subscriptTail _ _ (Value.ref _) (Value.int 0 _)) _ _ _); k_dflt (refine' tin_sub0 ?F ?X ?N ?T ?_ ?s; (case F => k_asm); (case X => k_asm); (case N => k_asm); (case T => (refine TIn.up (by assumption) ?_; kat_tups)); (case s => with_unfolding_all rfl)); intro t0')
  k_with "subscriptTail" => (k_here; (with_reducible show wpAny _ _ (subscriptTail _ _ (Value.ref _) (Value.int _ _)) _ _ _); k_dflt (refine' tup_item ?N ?m ?a ?b ?x ?_ ?s; (case N => k_asm); (case m => k_mem); (case a => decide); (case b => decide); (case x => exact rfl); (case s => with_unfolding_all rfl)))
  k_with "binaryOp Add ref ref" => (k_here; k_dflt (refine' snoc_add ?F ?N ?V ?a ?b ?z ?_; (case F => k_asm); (case N => k_asm); (case V => ktu_offI); (case a => k_mem); (case b => k_mem); (case z => first | exact Nat.le_of_ble_eq_true rfl | exact steps_small (by assumption) (by k_offL))); intro D' h' rest9 news9 F' N' up9 V9 m9 sub9; (try k_sweep))
  k_with "compareOp Eq ref ref" => (k_here; (with_reducible show wpAny _ _ (compareOp _ (Value.ref _) (Value.ref 430)) _ _ _); k_dflt (refine' ty_eq_slice ?F ?X ?N ?h ?b ?u ?_; (case F => k_asm); (case X => k_asm); (case N => k_asm); (case h => first | exact TyIn.slice | (refine TyIn.mono ?_ (by assumption); kat_tups)); (case b => first | assumption | exact rfl); (case u => ktr_units)))
  k_with "compareOp NotEq ref ref" => (k_here; (with_reducible show wpAny _ _ (compareOp _ (Value.ref _) (Value.ref 430)) _ _ _); k_dflt (first | (refine' slice_ne ?F ?X ?N ?u ?_; (case F => k_asm); (case X => k_asm); (case N => k_asm); (case u => ktr_units)) | (refine' ty_ne_slice ?F ?X ?N ?h ?b ?u ?_; (case F => k_asm); (case X => k_asm); (case N => k_asm); (case h => (refine TyIn.mono ?_ (by assumption); kat_tups)); (case b => assumption); (case u => ktr_units))))
  k_with "binaryOp Add ref ref" => (k_here; k_dflt (refine' bsnoc_add ?F ?N ?V ?a ?b ?z ?_; (case F => k_asm); (case N => k_asm); (case V => ktu_offI); (case a => k_mem); (case b => k_mem); (case z => first | exact Nat.le_of_ble_eq_true rfl | exact steps_small (by assumption) (by k_offL))); intro D' h' rest9 news9 F' N' up9 V9 m9 sub9; (try k_sweep))
  k_with "call ref" => (k_here; (with_reducible show wpAny _ _ (call (Value.ref 493) _) _ _ _); k_dflt (refine' runs_use (c_bkL ?V ?hm ?hy) ?B ?F ?X ?N ?T ?k ?d ?u ?_; (case B => k_asm); (case F => k_asm); (case X => k_asm); (case N => k_asm);(case V => ktu_offI); (case hm => k_mem); (case hy => k_offL); (case T => k_asm); (case k => exact rfl); (case d => ((try simp +zetaDelta only [depth_under_make, depth_under_kw, depth_in1, depth_deeper]); (try dsimp only [ktrTop]); (first | exact rl1 (by assumption) (by exact rfl) | exact rl2 (by assumption) (by exact rfl) | exact rl3 (by assumption) (by exact rfl) | omega))); (case u => ktr_units); intro r9 post9 h9 tk9 F' N' P9; revert P9; (refine ex1 ?_); intro rest9 P9; revert P9; (refine an3 ?_); intro up9 V9 T9; have sub9 := V9.sub; (try dsimp only); (try k_sweep)))
  k_with "call ref" => (k_here; (with_reducible show wpAny _ _ (call (Value.ref 493) _) _ _ _); k_dflt (refine' runs_use (c_bkN ?V ?hv ?hy) ?B ?F ?X ?N ?T ?k ?d ?u ?_; (case B => k_asm); (case F => k_asm); (case X => k_asm); (case N => k_asm);(case V => ktu_offI); (case hv => (refine NumIn.mono ?_ (by assumption); kat_tups)); (case hy => k_offL); (case T => k_asm); (case k => exact rfl); (case d => ((try simp +zetaDelta only [depth_under_make, depth_under_kw, depth_in1, depth_deeper]); (try dsimp only [ktrTop]); (first | exact rl1 (by assumption) (by exact rfl) | exact rl2 (by assumption) (by exact rfl) | exact rl3 (by assumption) (by exact rfl) | omega))); (case u => ktr_units); intro r9 post9 h9 tk9 F' N' P9; revert P9; (refine ex1 ?_); intro rest9 P9; revert P9; (refine an3 ?_); intro up9 V9 T9; have sub9 := V9.sub; (try dsimp only); (try k_sweep)))
  k_with "call ref" => (k_here; (with_reducible show wpAny _ _ (call (Value.ref 507) _) _ _ _); k_dflt (refine' runs_use (bway_use ?h ?up ?V ?hz ?hy) ?B ?F ?X ?N ?T ?k ?d ?u ?_; (case B => k_asm); (case F => k_asm); (case X => k_asm); (case N => k_asm);(case V => ktu_offI); (case h => assumption); (case up => kat_tups);(case hz => k_offL); (case hy => k_offL); (case T => k_asm); (case k => exact rfl); (case d => ((try simp +zetaDelta only [depth_under_make, depth_under_kw, depth_in1, depth_deeper]); (try dsimp only [ktrTop]); (first | exact rl1 (by assumption) (by exact rfl) | exact rl2 (by assumption) (by exact rfl) | exact rl3 (by assumption) (by exact rfl) | omega))); (case u => ktr_units); intro r9 post9 h9 tk9 F' N' P9; revert P9; (refine ex1 ?_); intro rest9 P9; revert P9; (refine an3 ?_); intro up9 V9 W9; have sub9 := V9.sub; obtain ⟨wa9, wb9, wc9, wd9⟩ := W9; (try dsimp only); (try k_sweep)))
  k_with "eval Call" => (k_fold; (try (refine tok_gen ?_; intro tkz)))
  k_with "eval Call Attribute" => (k_fold; (try (refine tok_gen ?_; intro tkz)))
  k_with "eval Tuple" => (k_fold; (try (refine tok_gen ?_; intro tkz)))
  trivial
theorem bw_sl {w : World} {rest : List (Addr × Obj)} {db lb e : Addr} {t t' t1 t2 t3 : Tok} {v u : Value} {τ : Ty} {k : Num} {b : Addr} (hm : (e, tupO [sv "index" t, v, .int 0 t', .ref b, u]) ∈ rest) (hb : (b, tupO [sv "local" t1, .ref 430, .int 0 t2, .int 3 t3]) ∈ rest) (hk : NumIn rest u k) (hv : TyIn rest v τ) : BWayC w db lb rest (.ref e) (.sl τ k) := by
  intro rest' pre n ds up0 V hz hy
  simp only [Pl.size] at hz hy
  have sub0 := V.sub
  obtain ⟨ka, te, tt, xs, hka, hkm⟩ := hk.head
  subst hka
  have hkr := num_rows_le k (n + 1)
  unfold Runs
  k_fill
  intro p loose mean mg mb dp un gd cn cs a ccd cl outer A₀ base h₀ L m s Q E B F X N T hk hd hu ret
  simp only [Pl.size] at hd hu
  k_steps
  refine' ret _ _ _ _ ?F ?N (bwpost ?V ?hn ?hd ?up (WayIn.mk ?a ?b ?c ?d))
  case F => k_asm
  case N => k_asm
  case V => ktu_offI
  case hn => first | rfl | (simp only [Pl.way, List.length_append, List.length_cons]; omega)
  case hd => first | rfl | (simp [Pl.way]; done)
  case up => kat_tups
  case a => k_mem
  case b => k_mem
  case c => kqd_in
  case d => (try simp only [Pl.way]); kqd_all
theorem bw_fld {w : World} {rest : List (Addr × Obj)} {db lb e : Addr} {t t' t'' : Tok} {v u : Value} {τ : Ty} {p : Pl} {f : Int} (hm : (e, tupO [sv "field" t, v, .int 0 t', u, .int f t'']) ∈ rest) (hv : TyIn rest v τ) (IH : BWayC w db lb rest u p) : BWayC w db lb rest (.ref e) (.fld τ p f) := by
  intro rest' pre n ds up0 V hz hy
  simp only [Pl.size] at hz hy
  have sub0 := V.sub
  have hwr := way_rows_le p n
  unfold Runs
  k_fill
  intro p loose mean mg mb dp un gd cn cs a ccd cl outer A₀ base h₀ L m s Q E B F X N T hk hd hu ret
  simp only [Pl.size] at hd hu
  k_steps
  refine' ret _ _ _ _ ?F ?N (bwpost ?V ?hn ?hd ?up (WayIn.mk ?a ?b ?c ?d))
  case F => k_asm
  case N => k_asm
  case V => ktu_offI
  case hn => first | rfl | (simp only [Pl.way, List.length_append, List.length_cons]; omega)
  case hd => first | rfl | (simp [Pl.way]; done)
  case up => kat_tups
  case a => k_mem
  case b => k_mem
  case c => kqd_in
  case d => (try simp only [Pl.way]); kqd_all
theorem bw_idx {w : World} {rest : List (Addr × Obj)} {db lb e : Addr} {t t' tb : Tok} {tE : Str} {v y : Value} {τ : Ty} {p : Pl} {k : Num} {b ty : Addr} {bs : List Value} (hm : (e, tupO [sv "index" t, v, .int 0 t', .ref b, y]) ∈ rest) (hb : (b, tupO (.str tE tb :: .ref ty :: bs)) ∈ rest) (hT : TyIn rest (.ref ty) p.ty) (hsl : p.ty.isSl = false) (hk : NumIn rest y k) (hv : TyIn rest v τ) (IH : BWayC w db lb rest (.ref b) p) : BWayC w db lb rest (.ref e) (.idx τ p k) := by
  intro rest' pre n ds up0 V hz hy
  simp only [Pl.size] at hz hy
  have sub0 := V.sub
  obtain ⟨ka, te, tt, xs, hka, hkm⟩ := hk.head
  subst hka
  have hwr := way_rows_le p n
  have hkr := num_rows_le k (n + (p.way n).rows.length)
  unfold Runs
  k_fill
  intro p loose mean mg mb dp un gd cn cs a ccd cl outer A₀ base h₀ L m s Q E B F X N T hk hd hu ret
  simp only [Pl.size] at hd hu
  k_steps
  refine' ret _ _ _ _ ?F ?N (bwpost ?V ?hn ?hd ?up (WayIn.mk ?a ?b ?c ?d))
  case F => k_asm
  case N => k_asm
  case V => ktu_offI
  case hn => first | rfl | (simp only [Pl.way, List.length_append, List.length_cons]; omega)
  case hd => first | rfl | (simp [Pl.way]; done)
  case up => kat_tups
  case a => k_mem
  case b => k_mem
  case c => kqd_in
  case d => (try simp only [Pl.way]); kqd_all
theorem bw_all {w : World} {rest : List (Addr × Obj)} {db lb : Addr} : ∀ {v : Value} {p : Pl}, PlIn rest v p → p.kept = true → BWayC w db lb rest v p := by
  intro v p P
  induction P with
  | v0 h _ => exact fun _ => bw_v0 h
  | w4 _ _ => exact fun k => Bool.noConfusion k
  | glob h t => exact fun _ => bw_glob h t
  | dc h _ b c d e => exact fun _ => bw_dc h b c d e
  | dl h _ b _ => exact fun _ => bw_dl h b
  | sl h t b k => exact fun _ => bw_sl h b k t
  | fld h t r ih => exact fun k => bw_fld h t (ih k)
  | idx h t r e kk ih =>
    intro k
    obtain ⟨a, te, tt, ty, xs, hv, hm, ht⟩ := r.head
    have R := ih k
    subst hv
    exact bw_idx h hm ht (arr_sl e) kk t R
def BAlJ (w : World) (db lb : Addr) (rest : List (Addr × Obj)) (m₀ : Str → Option Value) (out : Dat) (dsO : List Dat) (nO : Nat) (r : List Value) (m : Str → Option Value) (news : List (Addr × Obj)) : Prop :=
  ∃ pt u1 u2 u3 pd nn dd ss rest', m = formM m₀ pt u1 u2 u3 ∧ (∀ p ∈ rest, p ∈ rest') ∧ BLv w db lb nn dd rest' news ∧ TIn (TL ++ rest') pt pd ∧ StAll rest' r ss ∧ along pd nn ss = out ∧ dd ++ alongRows pd nn ss = dsO ∧ nn + ss.length = nO
theorem bal_end {w : World} {h₀ h' : Heap} {L I db lb : Addr} {o : Obj} {n : Nat} {ds : List Dat} {rest rest9 led : List (Addr × Obj)} {m' m₀ : Str → Option Value} {s₁ : Shared} {tk : Nat} {ka : Addr} {kv r : List Value} {out : Dat} {dsO : List Dat} {nO : Nat} {pt : Value} {pd : Dat} {ss : List Step}
    (F : Fr h₀ L h' m') (N : News h₀ L h' led) (V9 : BLv w db lb n ds rest9 led) (hc : o.cls = .type "tuple_iterator") (hI : (I, o) ∈ rest9) (hk : (ka, tupO kv) ∈ rest9) (up : ∀ p ∈ rest, p ∈ rest9) (offr : ∀ p ∈ rest, p.1 ≠ I) (T9 : TIn (TL ++ rest9) pt pd) (St : StAll rest9 r ss)
    (hp : m' (Str.ofString "pointer") = some pt) (ho : ∀ z, z ≠ Str.ofString "pointer" → z ≠ Str.ofString "reached" → z ≠ Str.ofString "told" → z ≠ Str.ofString "word" → m' z = m₀ z) (e1 : along pd n ss = out) (e2 : ds ++ alongRows pd n ss = dsO) (e3 : n + ss.length = nO) :
    UnrEndW h₀ L s₁ [(I, o)] (fun m' n' => SubL [(ka, tupO kv)] n' ∧ BAlJ w db lb rest m₀ out dsO nO r m' n') { s₁ with heap := h', toks := tk } := by
  have hI' := V9.sub _ hI
  have hT := offI_tup N V9.sub hI' hc
  obtain ⟨pre', s1, s2, V'⟩ := V9.off hc N hI'
  refine ⟨h', tk, m', pre', rfl, F, ?_, ?_, ⟨V'.sub _ (hT _ _ hk), trivial⟩, pt, _, _, _, pd, n, ds, ss, _, form_of hp ho, fun p hp => offI_mem.mpr ⟨up p hp, offr p hp⟩, V', T9.upT hT, St.upT hT, e1, e2, e3⟩
  · intro p hp
    rcases List.mem_append.mp hp with hp | hp
    · rw [List.mem_singleton.mp hp]; exact N _ hI'
    · exact N _ (s1 p hp)
  · intro p hp q hq
    rw [List.mem_singleton.mp hq]
    exact s2 p hp
theorem cat_e : Str.ofString "elem" ++ Str.ofString "ptr" = Str.ofString "elemptr" := by decide +kernel
theorem cat_f : Str.ofString "field" ++ Str.ofString "ptr" = Str.ofString "fieldptr" := by decide +kernel
theorem w_C30_0 : True := by
  w_top off
  k_with_none
  k_with "k_all" => (assumption)
  k_with "eval Dict" => (k_here; k_dflt (first
  | (refine' kdn_str ?q ?F ?N ?b ?a ?l ?e ?n ?_; (case q => rfl); (case F => k_asm); (case N => first | k_asm | exact News.nil); (case b => exact Top.nolimit (by k_asm)); (case a => rfl); (case l => rfl); (case e => exact List.cons_ne_nil _ _); (case n => exact Nat.le_of_ble_eq_true rfl))
  | (refine' kdn_int ?q ?F ?N ?b ?a ?l ?e ?n ?_; (case q => rfl); (case F => k_asm); (case N => first | k_asm | exact News.nil); (case b => exact Top.nolimit (by k_asm)); (case a => rfl); (case l => rfl); (case e => exact List.cons_ne_nil _ _); (case n => exact Nat.le_of_ble_eq_true rfl))); intro d' h' o' F' N' l1 lo' hd'; (try k_lt l1))
  k_with "eval Dict nil nil" => (k_here; k_dflt (refine' newDict_K ?k1 ?k2 (TopRead.nolimit (by k_asm)) ?_; (case k1 => k_asm); (case k2 => k_asm); k_whole); intro d' h' o' F' N' l1 lo' hs' fs' hi' fi'; (try k_lt l1); (try k_sweep))
  k_with "ktr_room" => (refine room_of ?_; (try simp +zetaDelta only [depth_under_make, depth_under_kw, depth_in1, depth_deeper]); (try dsimp only [ktrTop]); (first | exact rl1 (by assumption) (by exact rfl) | exact rl2 (by assumption) (by exact rfl) | exact rl3 (by assumption) (by exact rfl) | omega))
  k_with "ktr_enter" => (refine' code_def ?k1 ?k2 ?k3 ?k4 ?k5 ?kA ?kF ?kK ?k6 ?k7 ?k8 ?k9 ?kB ?_ ?c2 ?c3 ?c4 ?c5; (case kA => exact rfl); (case kF => exact rfl); (case kK => first | exact rfl | assumption); (case k1 => k_asm); (case k2 => k_asm); (case k3 => k_asm); (case k4 => k_asm); (case k5 => k_asm); (case k6 => k_is); (case k7 => k_is); (case k8 => ktr_room); (case k9 => first | exact BindsTo.of_eq rfl | exact binds_K (by k_in) rfl (by k_is) rfl rfl rfl); (case c5 => decide); (case kB => exact locs rfl); (case c2 => exact rfl); (case c3 => exact rfl); (case c4 => exact rfl); k_whole; intro g' L' h' FG' F' N' B' X' T'; (try dsimp only); (try k_fold); (try (refine let_enter ?_; intro M1 A1)))
  k_with "call ref" => (k_here; k_dflt (first
  | (refine wpAny_call ?_; ktr_enter)
  | (refine' call_cls0 ?k1 ?k2 ?k3 ?k4 ?k5 ?_; (case k1 => k_asm); (case k2 => k_asm); (case k3 => k_asm); (case k4 => k_is); (case k5 => k_is); k_whole; intro x' d' h' F' N' l1 l2; (try k_lt l1); (try k_lt2 l2); (try k_sweep))
  | (refine' call_cls ?k1 ?k2 ?k3 ?k4 ?k5 ?k6 ?_; (case k1 => k_asm); (case k2 => k_asm); (case k3 => k_asm); (case k4 => k_is); (case k5 => k_is); (case k6 => k_is); k_whole; intro x' d' h' F' N' l1 l2; (try k_lt l1); (try k_lt2 l2); (try k_sweep); ktr_enter)
  | (refine' call_meth ?k1 ?k2 ?_; (case k1 => k_asm); (case k2 => k_mem); k_whole; ktr_enter)))
  k_with "ktr_units" => ((try simp +zetaDelta only [units_in1, units_deeper, Around.mark_units, units_make]); (try dsimp only [ktrTop]); first | exact rl1 (by assumption) (by exact rfl) | exact rl2 (by assumption) (by exact rfl) | exact rl3 (by assumption) (by exact rfl) | omega | ((show _ < (9900 : Nat)); omega))
  k_with "call type:frozenset" => (k_here; k_dflt (refine' fz_call ?F ?N ?m ?d ?z ?_; (case F => k_asm); (case N => k_asm); (case m => k_mem); (case d => k_asm); (case z => k_asm)); intro D' h' tq' led' F' N' l1; (try k_lt l1))
  k_with "compareOp In int ref" => (k_here; k_dflt (refine' fz_in ?N ?m ?_; (case N => k_asm); (case m => k_mem)))
  k_with "call type:list" => (k_here; (with_reducible show wpAny _ _ (call (Value.type "list") [Value.ref _]) _ _ _); k_dflt (refine' list_copyK ?k1 ?k2 ?k3 ?_ ?z; (case k1 => k_asm); (case k2 => k_asm); (case k3 => exact News.isList (by k_asm) (by k_mem)); (case z => first | exact Nat.le_of_ble_eq_true rfl | omega); k_whole); intro D' c' h' F' N' l1; (try k_lt l1); (try k_sweep))
  k_with "k_mem" => (with_reducible kcf_m)
  k_with "k_get" => (with_reducible assumption)
  k_with "call builtin:len" => (k_here; (with_reducible show wpAny _ _ (call (Value.builtin "len") [Value.ref _]) _ _ _); k_dflt (refine' len_arr ?N ?m ?z ?_; (case N => k_asm); (case m => k_mem); (case z => (simp only [Array.size_push, List.size_toArray]; omega))))
  k_with "kcf_m" => (refine via (by assumption) ?_; kcf_m)
  k_with "subscriptTail Name Slice ref ref" => (k_here; (with_reducible show wpAny _ _ (subscriptTail _ _ (Value.ref _) (Value.ref _)) _ _ _); k_dflt (first
  | (refine' tup_head ?F ?N ?m ?h0 ?b ?e ?_ ?s ?t ?z; (case F => k_asm); (case N => k_asm); (case m => k_mem); (case h0 => decide); (case b => first | exact Nat.le_of_ble_eq_true rfl | (simp only [List.length_cons]; omega)); (case e => first | exact tk1 | exact dp1 | exact dp2 | exact rfl); (case s => with_unfolding_all rfl); (case t => kmk_pure); (case z => first | exact Nat.le_of_ble_eq_true rfl | (simp only [List.length_cons]; omega)))
  | (refine' tup_rest ?F ?N ?m ?h0 ?b ?e ?_ ?s ?t ?z; (case F => k_asm); (case N => k_asm); (case m => k_mem); (case h0 => decide); (case b => first | exact Nat.le_of_ble_eq_true rfl | (simp only [List.length_cons]; omega)); (case e => first | exact tk1 | exact dp1 | exact dp2 | exact rfl); (case s => with_unfolding_all rfl); (case t => kmk_pure); (case z => first | exact Nat.le_of_ble_eq_true rfl | (simp only [List.length_cons]; omega)))); intro D' h' F' N' l1; (try k_lt l1); (try k_sweep))
  k_with "subscriptTail" => (k_here; (with_reducible show wpAny _ _ (subscriptTail _ _ (Value.ref _) (Value.int _ _)) _ _ _); k_dflt (first
  | (refine' list_tailL ?N ?m ?a ?b ?x ?_ ?s; (case N => k_asm); (case m => k_mem); (case a => decide); (case b => decide); (case x => first | exact rfl | assumption); (case s => with_unfolding_all rfl))
  | (refine' dict_tail (knd := intKind _ _) ?N ?m ?d ?k ?v ?_ ?s; (case N => k_asm); (case m => k_mem); (case d => with_reducible assumption); (case k => exact intKind_is _ _ _ _); (case v => first | with_reducible assumption | exact rfl); (case s => with_unfolding_all rfl))))
  k_with "subscriptTail" => (k_here; (with_reducible show wpAny _ _ (subscriptTail _ _ (Value.ref _) (Value.str _ _)) _ _ _); k_dflt
  (refine' dict_tail (knd := strKind _ _) ?N ?m ?d ?k ?v ?_ ?s; (case N => k_asm); (case m => k_mem); (case d => with_reducible assumption); (case k => exact strKind_is _ _ _ _); (case v => exact rfl); (case s => with_unfolding_all rfl)))
  k_with "getItem ref str" => (k_here; k_dflt
  (refine' dict_get (knd := strKind _ _) ?N ?m ?d ?k ?v ?_; (case N => k_asm); (case m => k_mem); (case d => with_reducible assumption); (case k => exact strKind_is _ _ _ _); (case v => exact rfl)))
  k_with "compareOp In int ref" => (k_here; k_dflt (refine' fz_in' ?N ?m ?b ?_; (case N => k_asm); (case m => k_mem); (case b => first | assumption | exact rfl)))
  k_with "binaryOp Add ref ref" => (k_here; k_dflt (refine' tup_add ?F ?N ?a ?b ?v ?w ?z ?e ?_; (case F => k_asm); (case N => k_asm); (case a => k_mem); (case b => k_mem); (case v => first | exact List.cons_ne_nil _ _ | assumption); (case w => first | exact List.cons_ne_nil _ _ | assumption); (case z => first | exact Nat.le_of_ble_eq_true rfl | (simp only [List.length_cons, List.length_nil]; omega)); (case e => first | exact ap1 | exact ap2 | exact rfl)); intro D' h' F' N' l1; (try k_lt l1); (try k_sweep))
  k_with "newTuple" => (k_here; k_dflt (refine' kup_newTuple ?F ?N ?_ ?z; (case F => k_asm); (case N => k_asm); (case z => kmk_size)); intro D' h' F' N' l1; (try k_sweep))
  k_with "k_offL" => (first | omega | ((try simp only [List.length_append, List.length_cons, List.length_nil]); omega))
  k_with "subscriptTail" => (k_here; (with_reducible show wpAny _ _ (subscriptTail _ _ (Value.ref _) (Value.int 0 _)) _ _ _); k_dflt (refine' tin_sub0 ?F ?X ?N ?T ?_ ?s; (case F => k_asm); (case X => k_asm); (case N => k_asm); (case T => (refine TIn.up (by assumption) ?_; kat_tups)); (case s => with_unfolding_all rfl)); intro t0')
  k_with "subscriptTail" => (k_here; (with_reducible show wpAny _ _ (subscriptTail _ _ (Value.ref _) (Value.int _ _)) _ _ _); k_dflt (refine' tup_item ?N ?m ?a ?b ?x ?_ ?s; (case N => k_asm); (case m => k_mem); (case a => decide); (case b => decide); (case x => exact rfl); (case s => with_unfolding_all rfl)))
  k_with "exec For Tuple Name cons nil" => (k_here; (rename Fr _ _ _ _ => lF'); (with_unfolding_all refine' For_turns lF' ?_; k_whole))
  k_with "pyIter ref" => (k_here; (with_reducible show wpAny _ _ (pyIter (Value.ref _)) (fun it s₂ => TurnsAt _ _ _ _ _ _ _ _ _ it s₂) _ _); k_dflt (refine' iter_tupTurns ?h ?F ?N ?m ?c ?d ?_; (case h => with_unfolding_all rfl); (case F => k_asm); (case N => k_asm); (case m => k_mem); (case c => exact rfl); (case d => exact rfl)); intro I1 lI)
  k_with "compareOp Eq ref ref" => (k_here; (with_reducible show wpAny _ _ (compareOp _ (Value.ref _) (Value.ref 430)) _ _ _); k_dflt (refine' ty_eq_slice ?F ?X ?N ?h ?b ?u ?_; (case F => k_asm); (case X => k_asm); (case N => k_asm); (case h => first | exact TyIn.slice | (refine TyIn.mono ?_ (by assumption); kat_tups)); (case b => first | assumption | exact rfl); (case u => ktr_units)))
  k_with "compareOp NotEq ref ref" => (k_here; (with_reducible show wpAny _ _ (compareOp _ (Value.ref _) (Value.ref 430)) _ _ _); k_dflt (first | (refine' slice_ne ?F ?X ?N ?u ?_; (case F => k_asm); (case X => k_asm); (case N => k_asm); (case u => ktr_units)) | (refine' ty_ne_slice ?F ?X ?N ?h ?b ?u ?_; (case F => k_asm); (case X => k_asm); (case N => k_asm); (case h => (refine TyIn.mono ?_ (by assumption); kat_tups)); (case b => assumption); (case u => ktr_units))))
  k_with "exec For Tuple Subscript cons nil" => (k_here; (rename Fr _ _ _ _ => lF'); (with_unfolding_all refine' For_turns lF' ?_; k_whole))
  k_with "call ref" => (k_here; (with_reducible show wpAny _ _ (call (Value.ref 486) _) _ _ _); k_dflt (refine' runs_use (c_bput ?V ?hr ?hx ?h1 ?h2 ?hy) ?B ?F ?X ?N ?T ?k ?d ?u ?_; (case B => k_asm); (case F => k_asm); (case X => k_asm); (case N => k_asm);(case V => ktu_offI); (case hr => k_mem); (case hx => kqd_all); (case h1 => exact List.cons_ne_nil _ _); (case h2 => exact Nat.le_of_ble_eq_true rfl); (case hy => k_offL); (case T => k_asm); (case k => exact rfl); (case d => ((try simp +zetaDelta only [depth_under_make, depth_under_kw, depth_in1, depth_deeper]); (try dsimp only [ktrTop]); (first | exact rl1 (by assumption) (by exact rfl) | exact rl2 (by assumption) (by exact rfl) | exact rl3 (by assumption) (by exact rfl) | omega))); (case u => ktr_units); intro r9 post9 h9 tk9 F' N' P9; revert P9; (refine ex1 ?_); intro rest9 P9; revert P9; (refine an3 ?_); intro up9 V9 T9; have sub9 := V9.sub; (try dsimp only); (try k_sweep)))
  k_with "eval Call" => (k_fold; (try (refine tok_gen ?_; intro tkz)))
  k_with "eval Call Attribute" => (k_fold; (try (refine tok_gen ?_; intro tkz)))
  k_with "eval Tuple" => (k_fold; (try (refine tok_gen ?_; intro tkz)))
  trivial
theorem c_bpointer {w : World} {rest pre : List (Addr × Obj)} {db lb : Addr} {n : Nat} {ds : List Dat} {v : Value} {y : Way} (V : BLv w db lb n ds rest pre) (W : WayIn rest y v) (hy : ds.length + y.steps.length ≤ 750) :
  Runs w 514 [.ref db, v] pre 20 120 (BPost w db lb rest (n + y.steps.length) (ds ++ alongRows y.begin n y.steps) (along y.begin n y.steps)) := by
  obtain ⟨wa, wb, wc, wd⟩ := W
  have hln := alongRows_len y.begin n y.steps
  have sub0 := V.sub
  unfold Runs
  k_fill
  intro p loose mean mg mb dp un gd cn cs a ccd cl outer A₀ base h₀ L m s Q E B F X N T hk hd hu ret
  k_steps
  have offr : ∀ p ∈ rest, p.1 ≠ I1 := fun p hp => Nat.ne_of_lt (lI p ((by kat_tups : ∀ p ∈ rest, p ∈ _) p hp))
  refine items_inv (BAlJ w db lb rest _ (along y.begin n y.steps) (ds ++ alongRows y.begin n y.steps) (n + y.steps.length)) ?turn ?done _ _ _ ⟨_, _, _, _, _, _, _, _, _, form_of (by exact rfl) (fun _ _ _ _ _ => rfl), fun _ hp => hp, by ktu_offI, wc, wd, rfl, rfl, rfl⟩
  case turn =>
    intro v r m news HJ
    revert HJ
    refine ex9 ?_
    intro pt u1 u2 u3 pd nn dd ss rest' HJ
    revert HJ
    refine an8 ?_
    intro em up V' T' St' e1 e2 e3
    subst em
    intro h tk F' o hc N'
    have hln2 := alongRows_len pd nn ss
    have hdd := congrArg List.length e2
    have Vi := V'.iter hc N'
    simp only [List.length_append] at hdd
    have subi := Vi.sub
    cases St' with
    | @cons _ _ s ss' hS hSr =>
    cases hS with
    | @mk x t vv uu _ hx ht hu =>
    obtain ⟨isF, told, ty⟩ := s
    dsimp only at ht hu
    simp only [List.length_cons] at e3 hln2
    cases isF
    · simp only [Step.word, Bool.false_eq_true, if_false] at hx
      k_steps
      (try dsimp only [UnrPostW])
      refine' bal_end ?F ?N ?V hc ?hI ?hk ?up offr ?T ?St ?hp ?ho ?e1 ?e2 ?e3
      case F => k_asm
      case N => k_asm
      case V => ktu_offI
      case hI => k_mem
      case hk => k_mem
      case up => kat_tups
      case T => kqd_in
      case St => (refine StAll.mono ?_ hSr; kat_tups)
      case hp => exact rfl
      case ho => (intro z a b c d; simp [a, b, c, d, formM])
      case e1 => exact e1
      case e2 => (rw [← e2]; simp [alongRows, Step.wptr, cat_e, cat_f]; done)
      case e3 => omega
    · simp only [Step.word, if_true] at hx
      k_steps
      (try dsimp only [UnrPostW])
      refine' bal_end ?F ?N ?V hc ?hI ?hk ?up offr ?T ?St ?hp ?ho ?e1 ?e2 ?e3
      case F => k_asm
      case N => k_asm
      case V => ktu_offI
      case hI => k_mem
      case hk => k_mem
      case up => kat_tups
      case T => kqd_in
      case St => (refine StAll.mono ?_ hSr; kat_tups)
      case hp => exact rfl
      case ho => (intro z a b c d; simp [a, b, c, d, formM])
      case e1 => exact e1
      case e2 => (rw [← e2]; simp [alongRows, Step.wptr, cat_e, cat_f]; done)
      case e3 => omega
  case done =>
    intro m news HJ
    revert HJ
    refine ex9 ?_
    intro pt u1 u2 u3 pd nn dd ss rest' HJ
    revert HJ
    refine an8 ?_
    intro em up V' T' St' e1 e2 e3
    subst em
    intro h tk F' N'
    cases St'
    have sub' := V'.sub
    k_steps
    refine' ret _ _ _ _ ?F ?N (bpost ?V ?hn ?hd ?up ?T)
    case F => k_asm
    case N => k_asm
    case V => ktu_offI
    case hn => exact e3
    case hd => (rw [← e2]; simp [alongRows])
    case up => kat_tups
    case T => (rw [← e1]; kqd_in)
def BegK (pre : List (Addr × Obj)) (r : Value) (post : List (Addr × Obj)) : Prop :=
  post = pre ∧ ∃ a te tt ty z x xs, r = .ref a ∧ (a, tupO (.str te tt :: ty :: z :: x :: xs)) ∈ pre ∧ (te ≠ Str.ofString "local" ∨ (te = Str.ofString "local" ∧ ∃ t, x = .int 0 t))
def Beg4 (pre : List (Addr × Obj)) (r : Value) (post : List (Addr × Obj)) : Prop :=
  post = pre ∧ ∃ a tt ty z t, r = .ref a ∧ (a, tupO [sv "local" tt, ty, z, .int 4 t]) ∈ pre
theorem c_beginK {w : World} {pre : List (Addr × Obj)} {v : Value} {p : Pl} (hp : PlIn pre v p) (hk : p.kept = true) : Runs w 500 [v] pre 10 100 (BegK pre) :=
  (c_begin hp).mono (Nat.le_refl _) (Nat.le_refl _) fun r post h => by
    obtain ⟨e, d, hd, hkd, hb⟩ := h
    refine ⟨e, ?_⟩
    rw [hk] at hkd
    cases hd with
    | v0 h _ => exact ⟨_, _, _, _, _, _, _, rfl, h, .inr ⟨rfl, _, rfl⟩⟩
    | w4 h _ => exact Bool.noConfusion hkd
    | glob h _ => exact ⟨_, _, _, _, _, _, _, rfl, h, .inl (by decide)⟩
    | dc h _ => exact ⟨_, _, _, _, _, _, _, rfl, h, .inl (by decide)⟩
    | dl h _ => exact ⟨_, _, _, _, _, _, _, rfl, h, .inl (by decide)⟩
    | sl h _ => exact ⟨_, _, _, _, _, _, _, rfl, h, .inl (by decide)⟩
    | fld h _ => exact Bool.noConfusion hb
    | idx h _ => exact Bool.noConfusion hb
theorem c_begin4 {w : World} {pre : List (Addr × Obj)} {v : Value} {p : Pl} (hp : PlIn pre v p) (hk : p.kept = false) : Runs w 500 [v] pre 10 100 (Beg4 pre) :=
  (c_begin hp).mono (Nat.le_refl _) (Nat.le_refl _) fun r post h => by
    obtain ⟨e, d, hd, hkd, hb⟩ := h
    refine ⟨e, ?_⟩
    rw [hk] at hkd
    cases hd with
    | w4 h _ => exact ⟨_, _, _, _, _, rfl, h⟩
    | v0 h _ => exact Bool.noConfusion hkd
    | glob h _ => exact Bool.noConfusion hkd
    | dc h _ => exact Bool.noConfusion hkd
    | dl h _ => exact Bool.noConfusion hkd
    | sl h _ => exact Bool.noConfusion hkd
    | fld h _ => exact Bool.noConfusion hb
    | idx h _ => exact Bool.noConfusion hb
def BLoadC (w : World) (db lb : Addr) (rest : List (Addr × Obj)) (v : Value) (p : Pl) : Prop := ∀ rest' pre n ds, (∀ x ∈ rest, x ∈ rest') → BLv w db lb n ds rest' pre → n + 10 * p.size ≤ 600 → ds.length + 10 * p.size ≤ 600 →
  Runs w 521 [.ref db, v] pre (60 + 20 * p.size) (600 + 200 * p.size) (BPost w db lb rest' (n + (p.load n).rows.length) (ds ++ (p.load n).rows) (p.load n).out)
theorem bload_use {w : World} {db lb : Addr} {rest rest' pre : List (Addr × Obj)} {v : Value} {p : Pl} {n : Nat} {ds : List Dat} (h : BLoadC w db lb rest v p) (up : ∀ x ∈ rest, x ∈ rest') (V : BLv w db lb n ds rest' pre) (hz : n + 10 * p.size ≤ 600) (hy : ds.length + 10 * p.size ≤ 600) :
  Runs w 521 [.ref db, v] pre (60 + 20 * p.size) (600 + 200 * p.size) (BPost w db lb rest' (n + (p.load n).rows.length) (ds ++ (p.load n).rows) (p.load n).out) := h _ _ _ _ up V hz hy
section
variable {prog : Program} {w : World} {A : Around} {E : Value → Shared → Prop} {s : Shared}
theorem ne_str_t {x y : Str} {t u : Tok} {Q : Value → Shared → Prop} (h : x ≠ y) (q : Q (.bool true) s) : wpAny (model prog w) A (compareOp .NotEq (.str x t) (.str y u)) Q E s := by
  refine ne_str ?_
  rw [show (x != y) = true from bne_iff_ne.mpr h]
  exact q
end
theorem w_C31_0 : True := by
  w_top off
  k_with_none
  k_with "k_all" => (assumption)
  k_with "eval Dict" => (k_here; k_dflt (first
  | (refine' kdn_str ?q ?F ?N ?b ?a ?l ?e ?n ?_; (case q => rfl); (case F => k_asm); (case N => first | k_asm | exact News.nil); (case b => exact Top.nolimit (by k_asm)); (case a => rfl); (case l => rfl); (case e => exact List.cons_ne_nil _ _); (case n => exact Nat.le_of_ble_eq_true rfl))
  | (refine' kdn_int ?q ?F ?N ?b ?a ?l ?e ?n ?_; (case q => rfl); (case F => k_asm); (case N => first | k_asm | exact News.nil); (case b => exact Top.nolimit (by k_asm)); (case a => rfl); (case l => rfl); (case e => exact List.cons_ne_nil _ _); (case n => exact Nat.le_of_ble_eq_true rfl))); intro d' h' o' F' N' l1 lo' hd'; (try k_lt l1))
  k_with "eval Dict nil nil" => (k_here; k_dflt (refine' newDict_K ?k1 ?k2 (TopRead.nolimit (by k_asm)) ?_; (case k1 => k_asm); (case k2 => k_asm); k_whole); intro d' h' o' F' N' l1 lo' hs' fs' hi' fi'; (try k_lt l1); (try k_sweep))
  k_with "ktr_room" => (refine room_of ?_; (try simp +zetaDelta only [depth_under_make, depth_under_kw, depth_in1, depth_deeper]); (try dsimp only [ktrTop]); (first | exact rl1 (by assumption) (by exact rfl) | exact rl2 (by assumption) (by exact rfl) | exact rl3 (by assumption) (by exact rfl) | omega))
  k_with "ktr_enter" => (refine' code_def ?k1 ?k2 ?k3 ?k4 ?k5 ?kA ?kF ?kK ?k6 ?k7 ?k8 ?k9 ?kB ?_ ?c2 ?c3 ?c4 ?c5; (case kA => exact rfl); (case kF => exact rfl); (case kK => first | exact rfl | assumption); (case k1 => k_asm); (case k2 => k_asm); (case k3 => k_asm); (case k4 => k_asm); (case k5 => k_asm); (case k6 => k_is); (case k7 => k_is); (case k8 => ktr_room); (case k9 => first | exact BindsTo.of_eq rfl | exact binds_K (by k_in) rfl (by k_is) rfl rfl rfl); (case c5 => decide); (case kB => exact locs rfl); (case c2 => exact rfl); (case c3 => exact rfl); (case c4 => exact rfl); k_whole; intro g' L' h' FG' F' N' B' X' T'; (try dsimp only); (try k_fold); (try (refine let_enter ?_; intro M1 A1)))
  k_with "call ref" => (k_here; k_dflt (first
  | (refine wpAny_call ?_; ktr_enter)
  | (refine' call_cls0 ?k1 ?k2 ?k3 ?k4 ?k5 ?_; (case k1 => k_asm); (case k2 => k_asm); (case k3 => k_asm); (case k4 => k_is); (case k5 => k_is); k_whole; intro x' d' h' F' N' l1 l2; (try k_lt l1); (try k_lt2 l2); (try k_sweep))
  | (refine' call_cls ?k1 ?k2 ?k3 ?k4 ?k5 ?k6 ?_; (case k1 => k_asm); (case k2 => k_asm); (case k3 => k_asm); (case k4 => k_is); (case k5 => k_is); (case k6 => k_is); k_whole; intro x' d' h' F' N' l1 l2; (try k_lt l1); (try k_lt2 l2); (try k_sweep); ktr_enter)
  | (refine' call_meth ?k1 ?k2 ?_; (case k1 => k_asm); (case k2 => k_mem); k_whole; ktr_enter)))
  k_with "ktr_units" => ((try simp +zetaDelta only [units_in1, units_deeper, Around.mark_units, units_make]); (try dsimp only [ktrTop]); first | exact rl1 (by assumption) (by exact rfl) | exact rl2 (by assumption) (by exact rfl) | exact rl3 (by assumption) (by exact rfl) | omega | ((show _ < (9900 : Nat)); omega))
  k_with "call type:frozenset" => (k_here; k_dflt (refine' fz_call ?F ?N ?m ?d ?z ?_; (case F => k_asm); (case N => k_asm); (case m => k_mem); (case d => k_asm); (case z => k_asm)); intro D' h' tq' led' F' N' l1; (try k_lt l1))
  k_with "compareOp In int ref" => (k_here; k_dflt (refine' fz_in ?N ?m ?_; (case N => k_asm); (case m => k_mem)))
  k_with "call type:list" => (k_here; (with_reducible show wpAny _ _ (call (Value.type "list") [Value.ref _]) _ _ _); k_dflt (refine' list_copyK ?k1 ?k2 ?k3 ?_ ?z; (case k1 => k_asm); (case k2 => k_asm); (case k3 => exact News.isList (by k_asm) (by k_mem)); (case z => first | exact Nat.le_of_ble_eq_true rfl | omega); k_whole); intro D' c' h' F' N' l1; (try k_lt l1); (try k_sweep))
  k_with "k_mem" => (with_reducible kcf_m)
  k_with "k_get" => (with_reducible assumption)
  k_with "call builtin:len" => (k_here; (with_reducible show wpAny _ _ (call (Value.builtin "len") [Value.ref _]) _ _ _); k_dflt (refine' len_arr ?N ?m ?z ?_; (case N => k_asm); (case m => k_mem); (case z => (simp only [Array.size_push, List.size_toArray]; omega))))
  k_with "kcf_m" => (refine via (by assumption) ?_; kcf_m)
  k_with "subscriptTail Name Slice ref ref" => (k_here; (with_reducible show wpAny _ _ (subscriptTail _ _ (Value.ref _) (Value.ref _)) _ _ _); k_dflt (first
  | (refine' tup_head ?F ?N ?m ?h0 ?b ?e ?_ ?s ?t ?z; (case F => k_asm); (case N => k_asm); (case m => k_mem); (case h0 => decide); (case b => first | exact Nat.le_of_ble_eq_true rfl | (simp only [List.length_cons]; omega)); (case e => first | exact tk1 | exact dp1 | exact dp2 | exact rfl); (case s => with_unfolding_all rfl); (case t => kmk_pure); (case z => first | exact Nat.le_of_ble_eq_true rfl | (simp only [List.length_cons]; omega)))
  | (refine' tup_rest ?F ?N ?m ?h0 ?b ?e ?_ ?s ?t ?z; (case F => k_asm); (case N => k_asm); (case m => k_mem); (case h0 => decide); (case b => first | exact Nat.le_of_ble_eq_true rfl | (simp only [List.length_cons]; omega)); (case e => first | exact tk1 | exact dp1 | exact dp2 | exact rfl); (case s => with_unfolding_all rfl); (case t => kmk_pure); (case z => first | exact Nat.le_of_ble_eq_true rfl | (simp only [List.length_cons]; omega)))); intro D' h' F' N' l1; (try k_lt l1); (try k_sweep))
  k_with "subscriptTail" => (k_here; (with_reducible show wpAny _ _ (subscriptTail _ _ (Value.ref _) (Value.int _ _)) _ _ _); k_dflt (first
  | (refine' list_tailL ?N ?m ?a ?b ?x ?_ ?s; (case N => k_asm); (case m => k_mem); (case a => decide); (case b => decide); (case x => first | exact rfl | assumption); (case s => with_unfolding_all rfl))
  | (refine' dict_tail (knd := intKind _ _) ?N ?m ?d ?k ?v ?_ ?s; (case N => k_asm); (case m => k_mem); (case d => with_reducible assumption); (case k => exact intKind_is _ _ _ _); (case v => first | with_reducible assumption | exact rfl); (case s => with_unfolding_all rfl))))
  k_with "subscriptTail" => (k_here; (with_reducible show wpAny _ _ (subscriptTail _ _ (Value.ref _) (Value.str _ _)) _ _ _); k_dflt
  (refine' dict_tail (knd := strKind _ _) ?N ?m ?d ?k ?v ?_ ?s; (case N => k_asm); (case m => k_mem); (case d => with_reducible assumption); (case k => exact strKind_is _ _ _ _); (case v => exact rfl); (case s => with_unfolding_all rfl)))
  k_with "getItem ref str" => (k_here; k_dflt
  (refine' dict_get (knd := strKind _ _) ?N ?m ?d ?k ?v ?_; (case N => k_asm); (case m => k_mem); (case d => with_reducible assumption); (case k => exact strKind_is _ _ _ _); (case v => exact rfl)))
  k_with "compareOp In int ref" => (k_here; k_dflt (refine' fz_in' ?N ?m ?b ?_; (case N => k_asm); (case m => k_mem); (case b => first | assumption | exact rfl)))
  k_with "binaryOp Add ref ref" => (k_here; k_dflt (refine' tup_add ?F ?N ?a ?b ?v ?w ?z ?e ?_; (case F => k_asm); (case N => k_asm); (case a => k_mem); (case b => k_mem); (case v => first | exact List.cons_ne_nil _ _ | assumption); (case w => first | exact List.cons_ne_nil _ _ | assumption); (case z => first | exact Nat.le_of_ble_eq_true rfl | (simp only [List.length_cons, List.length_nil]; omega)); (case e => first | exact ap1 | exact ap2 | exact rfl)); intro D' h' F' N' l1; (try k_lt l1); (try k_sweep))
  k_with "newTuple" => (k_here; k_dflt (refine' kup_newTuple ?F ?N ?_ ?z; (case F => k_asm); (case N => k_asm); (case z => kmk_size)); intro D' h' F' N' l1; (try k_sweep))
  k_with "k_offL" => (first | omega | ((try simp only [List.length_append, List.length_cons, List.length_nil]); omega))
  k_with "subscriptTail" => (k_here; (with_reducible show wpAny _ _ (subscriptTail _ _ (Value.ref _) (Value.int 0 _)) _ _ _); k_dflt (refine' tin_sub0 ?F ?X ?N ?T ?_ ?s; (case F => k_asm); (case X => k_asm); (case N => k_asm); (case T => (refine TIn.up (by assumption) ?_; kat_tups)); (case s => with_unfolding_all rfl)); intro t0')
  k_with "subscriptTail" => (k_here; (with_reducible show wpAny _ _ (subscriptTail _ _ (Value.ref _) (Value.int _ _)) _ _ _); k_dflt (refine' tup_item ?N ?m ?a ?b ?x ?_ ?s; (case N => k_asm); (case m => k_mem); (case a => decide); (case b => decide); (case x => exact rfl); (case s => with_unfolding_all rfl)))
  k_with "compareOp Eq str str" => (k_here; k_dflt (refine' eq_str_f ?h ?_; (case h => with_reducible assumption)))
  k_with "compareOp Eq ref ref" => (k_here; (with_reducible show wpAny _ _ (compareOp _ (Value.ref _) (Value.ref 430)) _ _ _); k_dflt (refine' ty_eq_slice ?F ?X ?N ?h ?b ?u ?_; (case F => k_asm); (case X => k_asm); (case N => k_asm); (case h => first | exact TyIn.slice | (refine TyIn.mono ?_ (by assumption); kat_tups)); (case b => first | assumption | exact rfl); (case u => ktr_units)))
  k_with "compareOp NotEq ref ref" => (k_here; (with_reducible show wpAny _ _ (compareOp _ (Value.ref _) (Value.ref 430)) _ _ _); k_dflt (first | (refine' slice_ne ?F ?X ?N ?u ?_; (case F => k_asm); (case X => k_asm); (case N => k_asm); (case u => ktr_units)) | (refine' ty_ne_slice ?F ?X ?N ?h ?b ?u ?_; (case F => k_asm); (case X => k_asm); (case N => k_asm); (case h => (refine TyIn.mono ?_ (by assumption); kat_tups)); (case b => assumption); (case u => ktr_units))))
  k_with "compareOp NotEq str str" => (k_here; k_dflt (refine' ne_str_t ?h ?_; (case h => with_reducible assumption)))
  k_with "call ref" => (k_here; (with_reducible show wpAny _ _ (call (Value.ref 486) _) _ _ _); k_dflt (refine' runs_use (c_bput ?V ?hr ?hx ?h1 ?h2 ?hy) ?B ?F ?X ?N ?T ?k ?d ?u ?_; (case B => k_asm); (case F => k_asm); (case X => k_asm); (case N => k_asm);(case V => ktu_offI); (case hr => k_mem); (case hx => kqd_all); (case h1 => exact List.cons_ne_nil _ _); (case h2 => exact Nat.le_of_ble_eq_true rfl); (case hy => k_offL); (case T => k_asm); (case k => exact rfl); (case d => ((try simp +zetaDelta only [depth_under_make, depth_under_kw, depth_in1, depth_deeper]); (try dsimp only [ktrTop]); (first | exact rl1 (by assumption) (by exact rfl) | exact rl2 (by assumption) (by exact rfl) | exact rl3 (by assumption) (by exact rfl) | omega))); (case u => ktr_units); intro r9 post9 h9 tk9 F' N' P9; revert P9; (refine ex1 ?_); intro rest9 P9; revert P9; (refine an3 ?_); intro up9 V9 T9; have sub9 := V9.sub; (try dsimp only); (try k_sweep)))
  k_with "call ref" => (k_here; (with_reducible show wpAny _ _ (call (Value.ref 500) _) _ _ _); k_dflt (refine' runs_use (c_beginK ?h ?k) ?B ?F ?X ?N ?T ?kk ?d ?u ?_; (case B => k_asm); (case F => k_asm); (case X => k_asm); (case N => k_asm); (case h => (refine PlIn.mono ?_ (by assumption); kat_tups)); (case k => assumption); (case T => k_asm); (case kk => exact rfl); (case d => ((try simp +zetaDelta only [depth_under_make, depth_under_kw, depth_in1, depth_deeper]); (try dsimp only [ktrTop]); (first | exact rl1 (by assumption) (by exact rfl) | exact rl2 (by assumption) (by exact rfl) | exact rl3 (by assumption) (by exact rfl) | omega))); (case u => ktr_units); intro r9 post9 h9 tk9 F' N' P9; revert P9; (refine an2 ?_); intro e8 P9; revert P9; (refine ex7 ?_); intro ab9 te9 tt9 ty9 z9 x9 xs9 P9; revert P9; (refine an3 ?_); intro e9 hb9 hc9; subst e9; (replace N' := newsEq N' e8); (first | clear e8 post9 | subst e8); rcases hc9 with hc9 | ⟨hc9, tc9, hd9⟩ <;> (try subst hc9) <;> (try subst hd9); (try dsimp only); (try k_sweep)))
  k_with "eval Call" => (k_fold; (try (refine tok_gen ?_; intro tkz)))
  k_with "eval Call Attribute" => (k_fold; (try (refine tok_gen ?_; intro tkz)))
  k_with "eval Tuple" => (k_fold; (try (refine tok_gen ?_; intro tkz)))
  trivial
theorem bl_v0 {w : World} {rest : List (Addr × Obj)} {db lb e : Addr} {t t' t'' : Tok} {v : Value} {τ : Ty} (hm : (e, tupO [sv "local" t, v, .int 0 t', .int 0 t'']) ∈ rest) (P : PlIn rest (.ref e) (.v0 τ)) : BLoadC w db lb rest (.ref e) (.v0 τ) := by
  intro rest' pre n ds up0 V hz hy
  simp only [Pl.size] at hz hy
  have hkp : (Pl.v0 τ).kept = true := rfl
  have sub0 := V.sub
  unfold Runs
  k_fill
  intro p loose mean mg mb dp un gd cn cs a ccd cl outer A₀ base h₀ L m s Q E B F X N T hk hd hu ret
  k_steps
  all_goals
    refine' ret _ _ _ _ ?F ?N (bpost ?V ?hn ?hd ?up ?T)
    case F => k_asm
    case N => k_asm
    case V => ktu_offI
    case hn => first | rfl | (simp [Pl.load, Pl.loadK, Got.load, Way.got, Pl.way, along, alongRows]; done) | (simp [Pl.load, Pl.loadK, Got.load, Way.got, Pl.way, along, alongRows]; omega)
    case hd => first | rfl | (simp [Pl.load, Pl.loadK, Got.load, Way.got, Pl.way, along, alongRows]; done)
    case up => kat_tups
    case T => first | kqd_in | (simp only [Pl.load, Pl.loadK, Got.load, Way.got, Pl.way, along, alongRows]; kqd_in)
theorem w_C31_1 : True := by
  k_with "call ref" => (k_here; (with_reducible show wpAny _ _ (call (Value.ref 507) _) _ _ _); k_dflt (refine' runs_use (bway_use ?h ?up ?V ?hz ?hy) ?B ?F ?X ?N ?T ?k ?d ?u ?_; (case B => k_asm); (case F => k_asm); (case X => k_asm); (case N => k_asm);(case V => ktu_offI); (case h => assumption); (case up => kat_tups);(case hz => k_offL); (case hy => k_offL); (case T => k_asm); (case k => exact rfl); (case d => ((try simp +zetaDelta only [depth_under_make, depth_under_kw, depth_in1, depth_deeper]); (try dsimp only [ktrTop]); (first | exact rl1 (by assumption) (by exact rfl) | exact rl2 (by assumption) (by exact rfl) | exact rl3 (by assumption) (by exact rfl) | omega))); (case u => ktr_units); intro r9 post9 h9 tk9 F' N' P9; revert P9; (refine ex1 ?_); intro rest9 P9; revert P9; (refine an3 ?_); intro up9 V9 W9; have sub9 := V9.sub; (try dsimp only); (try k_sweep)))
  k_with "call ref" => (k_here; (with_reducible show wpAny _ _ (call (Value.ref 514) _) _ _ _); k_dflt (refine' runs_use (c_bpointer ?V ?W ?hy) ?B ?F ?X ?N ?T ?k ?d ?u ?_; (case B => k_asm); (case F => k_asm); (case X => k_asm); (case N => k_asm);(case V => ktu_offI); (case W => (refine WayIn.mono ?_ (by assumption); kat_tups)); (case hy => k_offL); (case T => k_asm); (case k => exact rfl); (case d => ((try simp +zetaDelta only [depth_under_make, depth_under_kw, depth_in1, depth_deeper]); (try dsimp only [ktrTop]); (first | exact rl1 (by assumption) (by exact rfl) | exact rl2 (by assumption) (by exact rfl) | exact rl3 (by assumption) (by exact rfl) | omega))); (case u => ktr_units); intro r9 post9 h9 tk9 F' N' P9; revert P9; (refine ex1 ?_); intro rest9 P9; revert P9; (refine an3 ?_); intro up9 V9 T9; have sub9 := V9.sub; (try dsimp only); (try k_sweep)))
  trivial
theorem bl_kept {w : World} {rest rest' pre : List (Addr × Obj)} {db lb e : Addr} {n : Nat} {ds : List Dat} {te : Str} {tt : Tok} {ty : Value} {xs : List Value} {p : Pl} (P : PlIn rest (.ref e) p) (hm : (e, tupO (.str te tt :: ty :: xs)) ∈ rest) (hne : te ≠ Str.ofString "local") (hkp : p.kept = true) (WY : BWayC w db lb rest (.ref e) p)
  (up0 : ∀ x ∈ rest, x ∈ rest') (V : BLv w db lb n ds rest' pre) (hz : n + 10 * p.size ≤ 600) (hy : ds.length + 10 * p.size ≤ 600) :
  Runs w 521 [.ref db, .ref e] pre (60 + 20 * p.size) (600 + 200 * p.size) (BPost w db lb rest' (n + (p.loadK n).rows.length) (ds ++ (p.loadK n).rows) (p.loadK n).out) := by
  have hp := size_pos p
  have hw := way_rows_le p n
  have hs := way_steps_le p n
  have hl := alongRows_len (p.way n).begin (n + (p.way n).rows.length) (p.way n).steps
  have sub0 := V.sub
  unfold Runs
  k_fill
  intro p loose mean mg mb dp un gd cn cs a ccd cl outer A₀ base h₀ L m s Q E B F X N T hk hd hu ret
  k_steps
  all_goals
    refine' ret _ _ _ _ ?F ?N (bpost ?V ?hn ?hd ?up (TIn.cast ?T ?e))
    case F => k_asm
    case N => k_asm
    case V => ktu_offI
    case up => kat_tups
    case T => kqd_in
    case hn => (simp only [Pl.loadK, Got.load, Way.got, alongRows_len, Nat.add_assoc, List.length_append, List.length_cons, List.length_nil, Bool.false_eq_true, if_false] <;> omega)
    case hd => (simp only [Pl.loadK, Got.load, Way.got, alongRows_len, Nat.add_assoc, List.append_assoc, List.length_append, Bool.false_eq_true, if_false])
    case e => (simp only [Pl.loadK, Got.load, Way.got, alongRows_len, Nat.add_assoc, List.length_append, Bool.false_eq_true, if_false])
theorem w_C32_0 : True := by
  w_top off
  k_with_none
  k_with "k_all" => (assumption)
  k_with "eval Dict" => (k_here; k_dflt (first
  | (refine' kdn_str ?q ?F ?N ?b ?a ?l ?e ?n ?_; (case q => rfl); (case F => k_asm); (case N => first | k_asm | exact News.nil); (case b => exact Top.nolimit (by k_asm)); (case a => rfl); (case l => rfl); (case e => exact List.cons_ne_nil _ _); (case n => exact Nat.le_of_ble_eq_true rfl))
  | (refine' kdn_int ?q ?F ?N ?b ?a ?l ?e ?n ?_; (case q => rfl); (case F => k_asm); (case N => first | k_asm | exact News.nil); (case b => exact Top.nolimit (by k_asm)); (case a => rfl); (case l => rfl); (case e => exact List.cons_ne_nil _ _); (case n => exact Nat.le_of_ble_eq_true rfl))); intro d' h' o' F' N' l1 lo' hd'; (try k_lt l1))
  k_with "eval Dict nil nil" => (k_here; k_dflt (refine' newDict_K ?k1 ?k2 (TopRead.nolimit (by k_asm)) ?_; (case k1 => k_asm); (case k2 => k_asm); k_whole); intro d' h' o' F' N' l1 lo' hs' fs' hi' fi'; (try k_lt l1); (try k_sweep))
  k_with "ktr_room" => (refine room_of ?_; (try simp +zetaDelta only [depth_under_make, depth_under_kw, depth_in1, depth_deeper]); (try dsimp only [ktrTop]); (first | exact rl1 (by assumption) (by exact rfl) | exact rl2 (by assumption) (by exact rfl) | exact rl3 (by assumption) (by exact rfl) | omega))
  k_with "ktr_enter" => (refine' code_def ?k1 ?k2 ?k3 ?k4 ?k5 ?kA ?kF ?kK ?k6 ?k7 ?k8 ?k9 ?kB ?_ ?c2 ?c3 ?c4 ?c5; (case kA => exact rfl); (case kF => exact rfl); (case kK => first | exact rfl | assumption); (case k1 => k_asm); (case k2 => k_asm); (case k3 => k_asm); (case k4 => k_asm); (case k5 => k_asm); (case k6 => k_is); (case k7 => k_is); (case k8 => ktr_room); (case k9 => first | exact BindsTo.of_eq rfl | exact binds_K (by k_in) rfl (by k_is) rfl rfl rfl); (case c5 => decide); (case kB => exact locs rfl); (case c2 => exact rfl); (case c3 => exact rfl); (case c4 => exact rfl); k_whole; intro g' L' h' FG' F' N' B' X' T'; (try dsimp only); (try k_fold); (try (refine let_enter ?_; intro M1 A1)))
  k_with "call ref" => (k_here; k_dflt (first
  | (refine wpAny_call ?_; ktr_enter)
  | (refine' call_cls0 ?k1 ?k2 ?k3 ?k4 ?k5 ?_; (case k1 => k_asm); (case k2 => k_asm); (case k3 => k_asm); (case k4 => k_is); (case k5 => k_is); k_whole; intro x' d' h' F' N' l1 l2; (try k_lt l1); (try k_lt2 l2); (try k_sweep))
  | (refine' call_cls ?k1 ?k2 ?k3 ?k4 ?k5 ?k6 ?_; (case k1 => k_asm); (case k2 => k_asm); (case k3 => k_asm); (case k4 => k_is); (case k5 => k_is); (case k6 => k_is); k_whole; intro x' d' h' F' N' l1 l2; (try k_lt l1); (try k_lt2 l2); (try k_sweep); ktr_enter)
  | (refine' call_meth ?k1 ?k2 ?_; (case k1 => k_asm); (case k2 => k_mem); k_whole; ktr_enter)))
  k_with "ktr_units" => ((try simp +zetaDelta only [units_in1, units_deeper, Around.mark_units, units_make]); (try dsimp only [ktrTop]); first | exact rl1 (by assumption) (by exact rfl) | exact rl2 (by assumption) (by exact rfl) | exact rl3 (by assumption) (by exact rfl) | omega | ((show _ < (9900 : Nat)); omega))
  k_with "call type:frozenset" => (k_here; k_dflt (refine' fz_call ?F ?N ?m ?d ?z ?_; (case F => k_asm); (case N => k_asm); (case m => k_mem); (case d => k_asm); (case z => k_asm)); intro D' h' tq' led' F' N' l1; (try k_lt l1))
  k_with "compareOp In int ref" => (k_here; k_dflt (refine' fz_in ?N ?m ?_; (case N => k_asm); (case m => k_mem)))
  k_with "call type:list" => (k_here; (with_reducible show wpAny _ _ (call (Value.type "list") [Value.ref _]) _ _ _); k_dflt (refine' list_copyK ?k1 ?k2 ?k3 ?_ ?z; (case k1 => k_asm); (case k2 => k_asm); (case k3 => exact News.isList (by k_asm) (by k_mem)); (case z => first | exact Nat.le_of_ble_eq_true rfl | omega); k_whole); intro D' c' h' F' N' l1; (try k_lt l1); (try k_sweep))
  k_with "k_mem" => (with_reducible kcf_m)
  k_with "k_get" => (with_reducible assumption)
  k_with "call builtin:len" => (k_here; (with_reducible show wpAny _ _ (call (Value.builtin "len") [Value.ref _]) _ _ _); k_dflt (refine' len_arr ?N ?m ?z ?_; (case N => k_asm); (case m => k_mem); (case z => (simp only [Array.size_push, List.size_toArray]; omega))))
  k_with "kcf_m" => (refine via (by assumption) ?_; kcf_m)
  k_with "subscriptTail Name Slice ref ref" => (k_here; (with_reducible show wpAny _ _ (subscriptTail _ _ (Value.ref _) (Value.ref _)) _ _ _); k_dflt (first
  | (refine' tup_head ?F ?N ?m ?h0 ?b ?e ?_ ?s ?t ?z; (case F => k_asm); (case N => k_asm); (case m => k_mem); (case h0 => decide); (case b => first | exact Nat.le_of_ble_eq_true rfl | (simp only [List.length_cons]; omega)); (case e => first | exact tk1 | exact dp1 | exact dp2 | exact rfl); (case s => with_unfolding_all rfl); (case t => kmk_pure); (case z => first | exact Nat.le_of_ble_eq_true rfl | (simp only [List.length_cons]; omega)))
  | (refine' tup_rest ?F ?N ?m ?h0 ?b ?e ?_ ?s ?t ?z; (case F => k_asm); (case N => k_asm); (case m => k_mem); (case h0 => decide); (case b => first | exact Nat.le_of_ble_eq_true rfl | (simp only [List.length_cons]; omega)); (case e => first | exact tk1 | exact dp1 | exact dp2 | exact rfl); (case s => with_unfolding_all rfl); (case t => kmk_pure); (case z => first | exact Nat.le_of_ble_eq_true rfl | (simp only [List.length_cons]; omega)))); intro D' h' F' N' l1; (try k_lt l1); (try k_sweep))
  k_with "subscriptTail" => (k_here; (with_reducible show wpAny _ _ (subscriptTail _ _ (Value.ref _) (Value.int _ _)) _ _ _); k_dflt (first
  | (refine' list_tailL ?N ?m ?a ?b ?x ?_ ?s; (case N => k_asm); (case m => k_mem); (case a => decide); (case b => decide); (case x => first | exact rfl | assumption); (case s => with_unfolding_all rfl))
  | (refine' dict_tail (knd := intKind _ _) ?N ?m ?d ?k ?v ?_ ?s; (case N => k_asm); (case m => k_mem); (case d => with_reducible assumption); (case k => exact intKind_is _ _ _ _); (case v => first | with_reducible assumption | exact rfl); (case s => with_unfolding_all rfl))))
  k_with "subscriptTail" => (k_here; (with_reducible show wpAny _ _ (subscriptTail _ _ (Value.ref _) (Value.str _ _)) _ _ _); k_dflt
  (refine' dict_tail (knd := strKind _ _) ?N ?m ?d ?k ?v ?_ ?s; (case N => k_asm); (case m => k_mem); (case d => with_reducible assumption); (case k => exact strKind_is _ _ _ _); (case v => exact rfl); (case s => with_unfolding_all rfl)))
  k_with "getItem ref str" => (k_here; k_dflt
  (refine' dict_get (knd := strKind _ _) ?N ?m ?d ?k ?v ?_; (case N => k_asm); (case m => k_mem); (case d => with_reducible assumption); (case k => exact strKind_is _ _ _ _); (case v => exact rfl)))
  k_with "compareOp In int ref" => (k_here; k_dflt (refine' fz_in' ?N ?m ?b ?_; (case N => k_asm); (case m => k_mem); (case b => first | assumption | exact rfl)))
  k_with "binaryOp Add ref ref" => (k_here; k_dflt (refine' tup_add ?F ?N ?a ?b ?v ?w ?z ?e ?_; (case F => k_asm); (case N => k_asm); (case a => k_mem); (case b => k_mem); (case v => first | exact List.cons_ne_nil _ _ | assumption); (case w => first | exact List.cons_ne_nil _ _ | assumption); (case z => first | exact Nat.le_of_ble_eq_true rfl | (simp only [List.length_cons, List.length_nil]; omega)); (case e => first | exact ap1 | exact ap2 | exact rfl)); intro D' h' F' N' l1; (try k_lt l1); (try k_sweep))
  k_with "newTuple" => (k_here; k_dflt (refine' kup_newTuple ?F ?N ?_ ?z; (case F => k_asm); (case N => k_asm); (case z => kmk_size)); intro D' h' F' N' l1; (try k_sweep))
  k_with "k_offL" => (first | omega | ((try simp only [List.length_append, List.length_cons, List.length_nil]); omega))
  k_with "subscriptTail" => (k_here; (with_reducible show wpAny _ _ (subscriptTail _ _ (Value.ref _) (Value.int 0 _)) _ _ _); k_dflt (refine' tin_sub0 ?F ?X ?N ?T ?_ ?s; (case F => k_asm); (case X => k_asm); (case N => k_asm); (case T => (refine TIn.up (by assumption) ?_; kat_tups)); (case s => with_unfolding_all rfl)); intro t0')
  k_with "subscriptTail" => (k_here; (with_reducible show wpAny _ _ (subscriptTail _ _ (Value.ref _) (Value.int _ _)) _ _ _); k_dflt (refine' tup_item ?N ?m ?a ?b ?x ?_ ?s; (case N => k_asm); (case m => k_mem); (case a => decide); (case b => decide); (case x => exact rfl); (case s => with_unfolding_all rfl)))
  k_with "compareOp Eq str str" => (k_here; k_dflt (refine' eq_str_f ?h ?_; (case h => with_reducible assumption)))
  k_with "compareOp Eq ref ref" => (k_here; (with_reducible show wpAny _ _ (compareOp _ (Value.ref _) (Value.ref 430)) _ _ _); k_dflt (refine' ty_eq_slice ?F ?X ?N ?h ?b ?u ?_; (case F => k_asm); (case X => k_asm); (case N => k_asm); (case h => first | exact TyIn.slice | (refine TyIn.mono ?_ (by assumption); kat_tups)); (case b => first | assumption | exact rfl); (case u => ktr_units)))
  k_with "compareOp NotEq ref ref" => (k_here; (with_reducible show wpAny _ _ (compareOp _ (Value.ref _) (Value.ref 430)) _ _ _); k_dflt (first | (refine' slice_ne ?F ?X ?N ?u ?_; (case F => k_asm); (case X => k_asm); (case N => k_asm); (case u => ktr_units)) | (refine' ty_ne_slice ?F ?X ?N ?h ?b ?u ?_; (case F => k_asm); (case X => k_asm); (case N => k_asm); (case h => (refine TyIn.mono ?_ (by assumption); kat_tups)); (case b => assumption); (case u => ktr_units))))
  k_with "compareOp NotEq str str" => (k_here; k_dflt (refine' ne_str_t ?h ?_; (case h => with_reducible assumption)))
  k_with "call ref" => (k_here; (with_reducible show wpAny _ _ (call (Value.ref 486) _) _ _ _); k_dflt (refine' runs_use (c_bput ?V ?hr ?hx ?h1 ?h2 ?hy) ?B ?F ?X ?N ?T ?k ?d ?u ?_; (case B => k_asm); (case F => k_asm); (case X => k_asm); (case N => k_asm);(case V => ktu_offI); (case hr => k_mem); (case hx => kqd_all); (case h1 => exact List.cons_ne_nil _ _); (case h2 => exact Nat.le_of_ble_eq_true rfl); (case hy => k_offL); (case T => k_asm); (case k => exact rfl); (case d => ((try simp +zetaDelta only [depth_under_make, depth_under_kw, depth_in1, depth_deeper]); (try dsimp only [ktrTop]); (first | exact rl1 (by assumption) (by exact rfl) | exact rl2 (by assumption) (by exact rfl) | exact rl3 (by assumption) (by exact rfl) | omega))); (case u => ktr_units); intro r9 post9 h9 tk9 F' N' P9; revert P9; (refine ex1 ?_); intro rest9 P9; revert P9; (refine an3 ?_); intro up9 V9 T9; have sub9 := V9.sub; (try dsimp only); (try k_sweep)))
  k_with "call ref" => (k_here; (with_reducible show wpAny _ _ (call (Value.ref 500) _) _ _ _); k_dflt (refine' runs_use (c_begin4 ?h ?k) ?B ?F ?X ?N ?T ?kk ?d ?u ?_; (case B => k_asm); (case F => k_asm); (case X => k_asm); (case N => k_asm); (case h => (refine PlIn.mono ?_ (by assumption); kat_tups)); (case k => assumption); (case T => k_asm); (case kk => exact rfl); (case d => ((try simp +zetaDelta only [depth_under_make, depth_under_kw, depth_in1, depth_deeper]); (try dsimp only [ktrTop]); (first | exact rl1 (by assumption) (by exact rfl) | exact rl2 (by assumption) (by exact rfl) | exact rl3 (by assumption) (by exact rfl) | omega))); (case u => ktr_units); intro r9 post9 h9 tk9 F' N' P9; revert P9; (refine an2 ?_); intro e8 P9; revert P9; (refine ex5 ?_); intro ab9 tt9 ty9 z9 t9 P9; revert P9; (refine an2 ?_); intro e9 hb9; subst e9; (replace N' := newsEq N' e8); (first | clear e8 post9 | subst e8); (try dsimp only); (try k_sweep)))
  k_with "call ref" => (k_here; (with_reducible show wpAny _ _ (call (Value.ref 521) _) _ _ _); k_dflt (refine' runs_use (bload_use ?h ?up ?V ?hz ?hy) ?B ?F ?X ?N ?T ?k ?d ?u ?_; (case B => k_asm); (case F => k_asm); (case X => k_asm); (case N => k_asm);(case V => ktu_offI); (case h => assumption); (case up => kat_tups);(case hz => k_offL); (case hy => k_offL); (case T => k_asm); (case k => exact rfl); (case d => ((try simp +zetaDelta only [depth_under_make, depth_under_kw, depth_in1, depth_deeper]); (try dsimp only [ktrTop]); (first | exact rl1 (by assumption) (by exact rfl) | exact rl2 (by assumption) (by exact rfl) | exact rl3 (by assumption) (by exact rfl) | omega))); (case u => ktr_units); intro r9 post9 h9 tk9 F' N' P9; revert P9; (refine ex1 ?_); intro rest9 P9; revert P9; (refine an3 ?_); intro up9 V9 T9; have sub9 := V9.sub; (try dsimp only); (try k_sweep)))
  k_with "eval Call" => (k_fold; (try (refine tok_gen ?_; intro tkz)))
  k_with "eval Call Attribute" => (k_fold; (try (refine tok_gen ?_; intro tkz)))
  k_with "eval Tuple" => (k_fold; (try (refine tok_gen ?_; intro tkz)))
  trivial
theorem bl_w4 {w : World} {rest : List (Addr × Obj)} {db lb e : Addr} {t t' t'' : Tok} {v : Value} {τ : Ty} (hm : (e, tupO [sv "local" t, v, .int 0 t', .int 4 t'']) ∈ rest) (P : PlIn rest (.ref e) (.w4 τ)) : BLoadC w db lb rest (.ref e) (.w4 τ) := by
  intro rest' pre n ds up0 V hz hy
  simp only [Pl.size] at hz hy
  have hkp : (Pl.w4 τ).kept = false := rfl
  have sub0 := V.sub
  unfold Runs
  k_fill
  intro p loose mean mg mb dp un gd cn cs a ccd cl outer A₀ base h₀ L m s Q E B F X N T hk hd hu ret
  k_steps
  all_goals
    refine' ret _ _ _ _ ?F ?N (bpost ?V ?hn ?hd ?up ?T)
    case F => k_asm
    case N => k_asm
    case V => ktu_offI
    case hn => first | rfl | (simp [Pl.load, Pl.loadK, Got.load, Way.got, Pl.way, along, alongRows]; done) | (simp [Pl.load, Pl.loadK, Got.load, Way.got, Pl.way, along, alongRows]; omega)
    case hd => first | rfl | (simp [Pl.load, Pl.loadK, Got.load, Way.got, Pl.way, along, alongRows]; done)
    case up => kat_tups
    case T => first | kqd_in | (simp only [Pl.load, Pl.loadK, Got.load, Way.got, Pl.way, along, alongRows]; kqd_in)
theorem bl_fld {w : World} {rest : List (Addr × Obj)} {db lb e : Addr} {t t' t'' : Tok} {v u : Value} {τ : Ty} {p : Pl} {f : Int} (hm : (e, tupO [sv "field" t, v, .int 0 t', u, .int f t'']) ∈ rest) (P : PlIn rest (.ref e) (.fld τ p f)) (hkp : (Pl.fld τ p f).kept = false) (IH : BLoadC w db lb rest u p) : BLoadC w db lb rest (.ref e) (.fld τ p f) := by
  intro rest' pre n ds up0 V hz hy
  have hk2 : p.kept = false := hkp
  have hls : (Pl.fld τ p f).size = p.size + 1 := rfl
  rw [hls] at hz hy
  have hlr := load_rows_le p n
  have hsp := size_pos p
  have sub0 := V.sub
  unfold Runs
  k_fill
  intro p loose mean mg mb dp un gd cn cs a ccd cl outer A₀ base h₀ L m s Q E B F X N T hk hd hu ret
  rw [hls] at hd hu
  k_steps
  all_goals
    refine' ret _ _ _ _ ?F ?N (bpost ?V ?hn ?hd ?up (TIn.cast ?T ?e))
    case F => k_asm
    case N => k_asm
    case V => ktu_offI
    case up => kat_tups
    case T => kqd_in
    case hn => (simp only [Pl.load, hk2, List.length_append, List.length_cons, List.length_nil, Bool.false_eq_true, if_false] <;> omega)
    case hd => (simp only [Pl.load, hk2, List.append_assoc, List.length_append, Bool.false_eq_true, if_false] <;> (simp [row2, reg]; done))
    case e => (simp only [Pl.load, hk2, List.length_append, Bool.false_eq_true, if_false])
theorem bl_idx_loc {w : World} {rest : List (Addr × Obj)} {db lb e : Addr} {t t' : Tok} {v u : Value} {τ : Ty} {p : Pl} {a : Addr} {s1 s2 s3 : Tok} (hm : (e, tupO [sv "index" t, v, .int 0 t', u, .ref a]) ∈ rest) (hk : (a, tupO [sv "local" s1, .ref 420, .int 0 s2, .int 1 s3]) ∈ rest) (P : PlIn rest (.ref e) (.idx τ p .loc)) (hkp : (Pl.idx τ p .loc).kept = false) (IH : BLoadC w db lb rest u p) : BLoadC w db lb rest (.ref e) (.idx τ p .loc) := by
  intro rest' pre n ds up0 V hz hy
  have hk2 : p.kept = false := hkp
  have hls : (Pl.idx τ p .loc).size = p.size + 1 := rfl
  rw [hls] at hz hy
  have hlr := load_rows_le p n
  have hsp := size_pos p
  have sub0 := V.sub
  unfold Runs
  k_fill
  intro p loose mean mg mb dp un gd cn cs a ccd cl outer A₀ base h₀ L m s Q E B F X N T hk hd hu ret
  rw [hls] at hd hu
  k_steps
  all_goals
    refine' ret _ _ _ _ ?F ?N (bpost ?V ?hn ?hd ?up (TIn.cast ?T ?e))
    case F => k_asm
    case N => k_asm
    case V => ktu_offI
    case up => kat_tups
    case T => kqd_in
    case hn => (simp only [Pl.load, Num.val, hk2, List.length_append, List.length_cons, List.length_nil, Bool.false_eq_true, if_false] <;> omega)
    case hd => (simp only [Pl.load, Num.val, hk2, List.append_assoc, List.length_append, Bool.false_eq_true, if_false] <;> (simp [row2, reg]; done))
    case e => (simp only [Pl.load, Num.val, hk2, List.length_append, Bool.false_eq_true, if_false])
theorem bl_idx_cst {w : World} {rest : List (Addr × Obj)} {db lb e : Addr} {t t' : Tok} {v u : Value} {τ : Ty} {p : Pl} {a : Addr} {s1 s2 s3 : Tok} {k : Int} (hm : (e, tupO [sv "index" t, v, .int 0 t', u, .ref a]) ∈ rest) (hk : (a, tupO [sv "const" s1, .ref 420, .int 0 s2, .int k s3]) ∈ rest) (P : PlIn rest (.ref e) (.idx τ p (.cst k))) (hkp : (Pl.idx τ p (.cst k)).kept = false) (IH : BLoadC w db lb rest u p) : BLoadC w db lb rest (.ref e) (.idx τ p (.cst k)) := by
  intro rest' pre n ds up0 V hz hy
  have hk2 : p.kept = false := hkp
  have hls : (Pl.idx τ p (.cst k)).size = p.size + 1 := rfl
  rw [hls] at hz hy
  have hlr := load_rows_le p n
  have hsp := size_pos p
  have sub0 := V.sub
  unfold Runs
  k_fill
  intro p loose mean mg mb dp un gd cn cs a ccd cl outer A₀ base h₀ L m s Q E B F X N T hk hd hu ret
  rw [hls] at hd hu
  k_steps
  all_goals
    refine' ret _ _ _ _ ?F ?N (bpost ?V ?hn ?hd ?up (TIn.cast ?T ?e))
    case F => k_asm
    case N => k_asm
    case V => ktu_offI
    case up => kat_tups
    case T => kqd_in
    case hn => (simp only [Pl.load, Num.val, hk2, List.length_append, List.length_cons, List.length_nil, Bool.false_eq_true, if_false] <;> omega)
    case hd => (simp only [Pl.load, Num.val, hk2, List.append_assoc, List.length_append, Bool.false_eq_true, if_false] <;> (simp [row2, reg]; done))
    case e => (simp only [Pl.load, Num.val, hk2, List.length_append, Bool.false_eq_true, if_false])
theorem bl_k {w : World} {rest : List (Addr × Obj)} {db lb : Addr} {v : Value} {p : Pl} (h : PlIn rest v p) {e : Addr} {te : Str} {tt : Tok} {ty : Value} {xs : List Value} (he : v = .ref e) (hm : (e, tupO (.str te tt :: ty :: xs)) ∈ rest) (hne : te ≠ Str.ofString "local") (hkp : p.kept = true) (hl : ∀ n, p.load n = p.loadK n) :
    BLoadC w db lb rest v p := by
  intro rest' pre n ds up V hz hy
  subst he
  rw [hl]
  exact bl_kept h hm hne hkp (bw_all h hkp) up V hz hy
theorem bl_all {w : World} {rest : List (Addr × Obj)} {db lb : Addr} : ∀ {v : Value} {p : Pl}, PlIn rest v p → BLoadC w db lb rest v p := by
  intro v p P
  induction P with
  | v0 h t => exact bl_v0 h (.v0 h t)
  | w4 h t => exact bl_w4 h (.w4 h t)
  | glob h t => exact bl_k (.glob h t) rfl h (by decide) rfl fun _ => rfl
  | dc h a b c d e => exact bl_k (.dc h a b c d e) rfl h (by decide) rfl fun _ => rfl
  | dl h a b c => exact bl_k (.dl h a b c) rfl h (by decide) rfl fun _ => rfl
  | sl h a b k => exact bl_k (.sl h a b k) rfl h (by decide) rfl fun _ => rfl
  | @fld _ _ _ _ _ _ τ p f h t r ih =>
    by_cases hk : p.kept = true
    · exact bl_k (.fld h t r) rfl h (by decide) hk fun n => by simp [Pl.load, hk]
    · have hk' : (Pl.fld τ p f).kept = false := Bool.eq_false_iff.mpr hk
      exact bl_fld h (.fld h t r) hk' ih
  | @idx _ _ _ _ _ _ τ p k h t r e kk ih =>
    by_cases hk : p.kept = true
    · exact bl_k (.idx h t r e kk) rfl h (by decide) hk fun n => by simp [Pl.load, hk]
    · have hk' : (Pl.idx τ p k).kept = false := Bool.eq_false_iff.mpr hk
      have R := ih
      cases kk with
      | loc q => exact bl_idx_loc h q (.idx h t r e (.loc q)) hk' R
      | cst q => exact bl_idx_cst h q (.idx h t r e (.cst q)) hk' R
theorem fmod_nn {x y : Int} (h : 0 < y) : 0 ≤ x.fmod y := Int.fmod_nonneg_of_pos x h
theorem fmod_lt {x y : Int} (h : 0 < y) : x.fmod y < y := Int.fmod_lt_of_pos x h
theorem mul_fm (x b : Int) : IntMulOk (x.fmod 2147483647) b := by
  have h1 := fmod_nn (x := x) (y := 2147483647) (by decide)
  have h2 := fmod_lt (x := x) (y := 2147483647) (by decide)
  exact .of_left (PySem.intBits_le_64 (by omega) (by omega))
theorem w_C33_0 : True := by
  w_top off
  k_with_none
  k_with "k_all" => (assumption)
  k_with "eval Dict" => (k_here; k_dflt (first
  | (refine' kdn_str ?q ?F ?N ?b ?a ?l ?e ?n ?_; (case q => rfl); (case F => k_asm); (case N => first | k_asm | exact News.nil); (case b => exact Top.nolimit (by k_asm)); (case a => rfl); (case l => rfl); (case e => exact List.cons_ne_nil _ _); (case n => exact Nat.le_of_ble_eq_true rfl))
  | (refine' kdn_int ?q ?F ?N ?b ?a ?l ?e ?n ?_; (case q => rfl); (case F => k_asm); (case N => first | k_asm | exact News.nil); (case b => exact Top.nolimit (by k_asm)); (case a => rfl); (case l => rfl); (case e => exact List.cons_ne_nil _ _); (case n => exact Nat.le_of_ble_eq_true rfl))); intro d' h' o' F' N' l1 lo' hd'; (try k_lt l1))
  k_with "eval Dict nil nil" => (k_here; k_dflt (refine' newDict_K ?k1 ?k2 (TopRead.nolimit (by k_asm)) ?_; (case k1 => k_asm); (case k2 => k_asm); k_whole); intro d' h' o' F' N' l1 lo' hs' fs' hi' fi'; (try k_lt l1); (try k_sweep))
  k_with "ktr_room" => (refine room_of ?_; (try simp +zetaDelta only [depth_under_make, depth_under_kw, depth_in1, depth_deeper]); (try dsimp only [ktrTop]); (first | exact rl1 (by assumption) (by exact rfl) | exact rl2 (by assumption) (by exact rfl) | exact rl3 (by assumption) (by exact rfl) | omega))
  k_with "ktr_enter" => (refine' code_def ?k1 ?k2 ?k3 ?k4 ?k5 ?kA ?kF ?kK ?k6 ?k7 ?k8 ?k9 ?kB ?_ ?c2 ?c3 ?c4 ?c5; (case kA => exact rfl); (case kF => exact rfl); (case kK => first | exact rfl | assumption); (case k1 => k_asm); (case k2 => k_asm); (case k3 => k_asm); (case k4 => k_asm); (case k5 => k_asm); (case k6 => k_is); (case k7 => k_is); (case k8 => ktr_room); (case k9 => first | exact BindsTo.of_eq rfl | exact binds_K (by k_in) rfl (by k_is) rfl rfl rfl); (case c5 => decide); (case kB => exact locs rfl); (case c2 => exact rfl); (case c3 => exact rfl); (case c4 => exact rfl); k_whole; intro g' L' h' FG' F' N' B' X' T'; (try dsimp only); (try k_fold); (try (refine let_enter ?_; intro M1 A1)))
  k_with "call ref" => (k_here; k_dflt (first
  | (refine wpAny_call ?_; ktr_enter)
  | (refine' call_cls0 ?k1 ?k2 ?k3 ?k4 ?k5 ?_; (case k1 => k_asm); (case k2 => k_asm); (case k3 => k_asm); (case k4 => k_is); (case k5 => k_is); k_whole; intro x' d' h' F' N' l1 l2; (try k_lt l1); (try k_lt2 l2); (try k_sweep))
  | (refine' call_cls ?k1 ?k2 ?k3 ?k4 ?k5 ?k6 ?_; (case k1 => k_asm); (case k2 => k_asm); (case k3 => k_asm); (case k4 => k_is); (case k5 => k_is); (case k6 => k_is); k_whole; intro x' d' h' F' N' l1 l2; (try k_lt l1); (try k_lt2 l2); (try k_sweep); ktr_enter)
  | (refine' call_meth ?k1 ?k2 ?_; (case k1 => k_asm); (case k2 => k_mem); k_whole; ktr_enter)))
  k_with "ktr_units" => ((try simp +zetaDelta only [units_in1, units_deeper, Around.mark_units, units_make]); (try dsimp only [ktrTop]); first | exact rl1 (by assumption) (by exact rfl) | exact rl2 (by assumption) (by exact rfl) | exact rl3 (by assumption) (by exact rfl) | omega | ((show _ < (9900 : Nat)); omega))
  k_with "call type:frozenset" => (k_here; k_dflt (refine' fz_call ?F ?N ?m ?d ?z ?_; (case F => k_asm); (case N => k_asm); (case m => k_mem); (case d => k_asm); (case z => k_asm)); intro D' h' tq' led' F' N' l1; (try k_lt l1))
  k_with "compareOp In int ref" => (k_here; k_dflt (refine' fz_in ?N ?m ?_; (case N => k_asm); (case m => k_mem)))
  k_with "call type:list" => (k_here; (with_reducible show wpAny _ _ (call (Value.type "list") [Value.ref _]) _ _ _); k_dflt (refine' list_copyK ?k1 ?k2 ?k3 ?_ ?z; (case k1 => k_asm); (case k2 => k_asm); (case k3 => exact News.isList (by k_asm) (by k_mem)); (case z => first | exact Nat.le_of_ble_eq_true rfl | omega); k_whole); intro D' c' h' F' N' l1; (try k_lt l1); (try k_sweep))
  k_with "k_mem" => (with_reducible kcf_m)
  k_with "k_get" => (with_reducible assumption)
  k_with "call builtin:len" => (k_here; (with_reducible show wpAny _ _ (call (Value.builtin "len") [Value.ref _]) _ _ _); k_dflt (refine' len_arr ?N ?m ?z ?_; (case N => k_asm); (case m => k_mem); (case z => (simp only [Array.size_push, List.size_toArray]; omega))))
  k_with "kcf_m" => (refine via (by assumption) ?_; kcf_m)
  k_with "subscriptTail Name Slice ref ref" => (k_here; (with_reducible show wpAny _ _ (subscriptTail _ _ (Value.ref _) (Value.ref _)) _ _ _); k_dflt (first
  | (refine' tup_head ?F ?N ?m ?h0 ?b ?e ?_ ?s ?t ?z; (case F => k_asm); (case N => k_asm); (case m => k_mem); (case h0 => decide); (case b => first | exact Nat.le_of_ble_eq_true rfl | (simp only [List.length_cons]; omega)); (case e => first | exact tk1 | exact dp1 | exact dp2 | exact rfl); (case s => with_unfolding_all rfl); (case t => kmk_pure); (case z => first | exact Nat.le_of_ble_eq_true rfl | (simp only [List.length_cons]; omega)))
  | (refine' tup_rest ?F ?N ?m ?h0 ?b ?e ?_ ?s ?t ?z; (case F => k_asm); (case N => k_asm); (case m => k_mem); (case h0 => decide); (case b => first | exact Nat.le_of_ble_eq_true rfl | (simp only [List.length_cons]; omega)); (case e => first | exact tk1 | exact dp1 | exact dp2 | exact rfl); (case s => with_unfolding_all rfl); (case t => kmk_pure); (case z => first | exact Nat.le_of_ble_eq_true rfl | (simp only [List.length_cons]; omega)))); intro D' h' F' N' l1; (try k_lt l1); (try k_sweep))
  k_with "subscriptTail" => (k_here; (with_reducible show wpAny _ _ (subscriptTail _ _ (Value.ref _) (Value.int _ _)) _ _ _); k_dflt (first
  | (refine' list_tailL ?N ?m ?a ?b ?x ?_ ?s; (case N => k_asm); (case m => k_mem); (case a => decide); (case b => decide); (case x => first | exact rfl | assumption); (case s => with_unfolding_all rfl))
  | (refine' dict_tail (knd := intKind _ _) ?N ?m ?d ?k ?v ?_ ?s; (case N => k_asm); (case m => k_mem); (case d => with_reducible assumption); (case k => exact intKind_is _ _ _ _); (case v => first | with_reducible assumption | exact rfl); (case s => with_unfolding_all rfl))))
  k_with "subscriptTail" => (k_here; (with_reducible show wpAny _ _ (subscriptTail _ _ (Value.ref _) (Value.str _ _)) _ _ _); k_dflt
  (refine' dict_tail (knd := strKind _ _) ?N ?m ?d ?k ?v ?_ ?s; (case N => k_asm); (case m => k_mem); (case d => with_reducible assumption); (case k => exact strKind_is _ _ _ _); (case v => exact rfl); (case s => with_unfolding_all rfl)))
  k_with "getItem ref str" => (k_here; k_dflt
  (refine' dict_get (knd := strKind _ _) ?N ?m ?d ?k ?v ?_; (case N => k_asm); (case m => k_mem); (case d => with_reducible assumption); (case k => exact strKind_is _ _ _ _); (case v => exact rfl)))
  k_with "compareOp In int ref" => (k_here; k_dflt (refine' fz_in' ?N ?m ?b ?_; (case N => k_asm); (case m => k_mem); (case b => first | assumption | exact rfl)))
  k_with "binaryOp Add ref ref" => (k_here; k_dflt (refine' tup_add ?F ?N ?a ?b ?v ?w ?z ?e ?_; (case F => k_asm); (case N => k_asm); (case a => k_mem); (case b => k_mem); (case v => first | exact List.cons_ne_nil _ _ | assumption); (case w => first | exact List.cons_ne_nil _ _ | assumption); (case z => first | exact Nat.le_of_ble_eq_true rfl | (simp only [List.length_cons, List.length_nil]; omega)); (case e => first | exact ap1 | exact ap2 | exact rfl)); intro D' h' F' N' l1; (try k_lt l1); (try k_sweep))
  k_with "binaryOp Mult int int" => (k_here; k_dflt (refine mul_int ?_ (mul_fm _ _)))
  k_with "eval Call" => (k_fold; (try (refine tok_gen ?_; intro tkz)))
  k_with "eval Call Attribute" => (k_fold; (try (refine tok_gen ?_; intro tkz)))
  k_with "eval Tuple" => (k_fold; (try (refine tok_gen ?_; intro tkz)))
  trivial
theorem c_take {w : World} (rest : List (Addr × Obj)) {ls : Addr} {a b top : Int} {ta tb t : Tok} {k : Nat} (h0 : 0 < top) (h1 : top ≤ 100) (ho : ∀ p ∈ rest, p.1 ≠ ls) :
  Runs w 444 [.ref ls, .int top t] ((ls, listOf #[.int a ta, .int b tb] k) :: rest) 4 30 (fun r post => ∃ j u a' ta' b' tb' k', r = .int j u ∧ 0 ≤ j ∧ j < top ∧ post = (ls, listOf #[.int a' ta', .int b' tb'] k') :: rest) := by
  unfold Runs
  k_fill
  intro p loose mean mg mb dp un gd cn cs a ccd cl outer A₀ base h₀ L m s Q E B F X N T hk hd hu ret
  k_steps
  all_goals exact ret _ _ _ _ (by k_asm) (by k_asm) ⟨_, _, _, _, _, _, _, rfl, fmod_nn h0, fmod_lt h0, rfl⟩
theorem Runs.monoS {w : World} {f : Addr} {args : List Value} {pre : List (Addr × Obj)} {dd uu : Nat} {Post Post' : Value → List (Addr × Obj) → Prop} (C : Runs w f args pre dd uu Post) (h : ∀ r post, Post r post → ∃ post', (∀ p ∈ post', p ∈ post) ∧ Post' r post') : Runs w f args pre dd uu Post' := by
  unfold Runs at *
  intro p loose mean mg mb dp un gd cn cs a ccd cl outer A₀ base h₀ L m s Q E B F X N T hk hd' hu' ret
  exact C p loose mean mg mb dp un gd cn cs a ccd cl outer A₀ base h₀ L m s Q E B F X N T hk hd' hu' fun r post h' tk' F' N' P => by
    obtain ⟨post', hs, P'⟩ := h r post P
    exact ret r post' h' tk' F' (News.sub N' hs) P'
abbrev srcO (a b : Int) (ta tb : Tok) (k : Nat) : Obj := listOf #[.int a ta, .int b tb] k
theorem c_takeU {w : World} {pre : List (Addr × Obj)} {g : Obj → List (Addr × Obj)} {ls : Addr} {a b top : Int} {ta tb t : Tok} {k : Nat} (U : UpdF ls (srcO a b ta tb k) pre g) (h0 : 0 < top) (h1 : top ≤ 100) :
  Runs w 444 [.ref ls, .int top t] pre 4 30 (fun r post => ∃ j u a' ta' b' tb' k', r = .int j u ∧ 0 ≤ j ∧ j < top ∧ post = g (srcO a' b' ta' tb' k')) := by
  obtain ⟨p1, p2, rfl, hg, o1, o2⟩ := U.split
  refine ((c_take (a := a) (b := b) (ta := ta) (tb := tb) (k := k) (p1 ++ p2) h0 h1 fun p hp => (List.mem_append.mp hp).elim (o1 p) (o2 p)).pre ?_).monoS ?_
  · intro p hp
    rcases List.mem_cons.mp hp with rfl | hp
    · exact List.mem_append.mpr (.inr (.head _))
    · exact (List.mem_append.mp hp).elim (fun h => List.mem_append.mpr (.inl h)) fun h => List.mem_append.mpr (.inr (.tail _ h))
  · rintro r post ⟨j, u, a', ta', b', tb', k', e, x0, x1, rfl⟩
    refine ⟨g (srcO a' b' ta' tb' k'), ?_, j, u, a', ta', b', tb', k', e, x0, x1, rfl⟩
    rw [hg]
    intro p hp
    rcases List.mem_append.mp hp with hp | hp
    · exact .tail _ (List.mem_append.mpr (.inl hp))
    · rcases List.mem_cons.mp hp with rfl | hp
      · exact .head _
      · exact .tail _ (List.mem_append.mpr (.inr hp))
theorem pick_of {vs : List Value} {j : Int} (hl : vs.length ≤ 100) (h0 : 0 ≤ j) (h1 : j < ((vs.toArray.size : Nat) : Int)) : ∃ v, vs[j.toNat]? = some v ∧ v ∈ vs ∧ j < 2 ^ 63 := by
  have h : j.toNat < vs.length := by simp at h1; omega
  exact ⟨vs[j.toNat], List.getElem?_eq_getElem h, List.getElem_mem h, by omega⟩
theorem range_facts {j : Int} (h0 : 0 ≤ j) (h1 : j < 4) : ∃ n : Nat, j = (n : Int) ∧ n < 4 ∧ Builtin.Range.small 0 (n : Int) 1 = true ∧ Builtin.Range.rangeSize 0 (n : Int) 1 = (n : Int) := by
  obtain ⟨n, rfl⟩ := Int.eq_ofNat_of_zero_le h0
  have hn : n < 4 := by omega
  refine ⟨n, rfl, hn, ?_, ?_⟩
  · match n, hn with
    | 0, _ => decide | 1, _ => decide | 2, _ => decide | 3, _ => decide
  · match n, hn with
    | 0, _ => decide | 1, _ => decide | 2, _ => decide | 3, _ => decide
theorem PlIn.shape {led : List (Addr × Obj)} {v : Value} {p : Pl} (h : PlIn led v p) : ∃ a te tt ty xs, v = .ref a ∧ (a, tupO (.str te tt :: ty :: xs)) ∈ led ∧ xs ≠ [] ∧ xs.length ≤ 3 ∧
    ∀ led' b τ y, (∀ q ∈ led, q ∈ led') → (b, tupO (.str te tt :: y :: xs)) ∈ led' → TyIn led' y τ → PlIn led' (.ref b) (p.re τ) := by
  induction h with
  | v0 h t => exact ⟨_, _, _, _, _, rfl, h, List.cons_ne_nil _ _, by simp, fun led' b τ y hs hb hy => .v0 hb hy⟩
  | w4 h t => exact ⟨_, _, _, _, _, rfl, h, List.cons_ne_nil _ _, by simp, fun led' b τ y hs hb hy => .w4 hb hy⟩
  | glob h t => exact ⟨_, _, _, _, _, rfl, h, List.cons_ne_nil _ _, by simp, fun led' b τ y hs hb hy => .glob hb hy⟩
  | dc h t a b c d => exact ⟨_, _, _, _, _, rfl, h, List.cons_ne_nil _ _, by simp, fun led' _ τ y hs hb hy => .dc hb hy (hs _ a) (hs _ b) (hs _ c) (hs _ d)⟩
  | dl h t a b => exact ⟨_, _, _, _, _, rfl, h, List.cons_ne_nil _ _, by simp, fun led' _ τ y hs hb hy => .dl hb hy (hs _ a) (hs _ b)⟩
  | sl h t a k => exact ⟨_, _, _, _, _, rfl, h, List.cons_ne_nil _ _, by simp, fun led' _ τ y hs hb hy => .sl hb hy (hs _ a) (k.mono hs)⟩
  | fld h t r => exact ⟨_, _, _, _, _, rfl, h, List.cons_ne_nil _ _, by simp, fun led' _ τ y hs hb hy => .fld hb hy (r.mono hs)⟩
  | idx h t r e k => exact ⟨_, _, _, _, _, rfl, h, List.cons_ne_nil _ _, by simp, fun led' _ τ y hs hb hy => .idx hb hy (r.mono hs) e (k.mono hs)⟩
theorem re_size (p : Pl) (τ : Ty) : (p.re τ).size = p.size := by cases p <;> rfl
theorem re_ty (p : Pl) (τ : Ty) : (p.re τ).ty = τ := by cases p <;> rfl
theorem w_C34_0 : True := by
  w_top off
  k_with_none
  k_with "k_all" => (assumption)
  k_with "eval Dict" => (k_here; k_dflt (first
  | (refine' kdn_str ?q ?F ?N ?b ?a ?l ?e ?n ?_; (case q => rfl); (case F => k_asm); (case N => first | k_asm | exact News.nil); (case b => exact Top.nolimit (by k_asm)); (case a => rfl); (case l => rfl); (case e => exact List.cons_ne_nil _ _); (case n => exact Nat.le_of_ble_eq_true rfl))
  | (refine' kdn_int ?q ?F ?N ?b ?a ?l ?e ?n ?_; (case q => rfl); (case F => k_asm); (case N => first | k_asm | exact News.nil); (case b => exact Top.nolimit (by k_asm)); (case a => rfl); (case l => rfl); (case e => exact List.cons_ne_nil _ _); (case n => exact Nat.le_of_ble_eq_true rfl))); intro d' h' o' F' N' l1 lo' hd'; (try k_lt l1))
  k_with "eval Dict nil nil" => (k_here; k_dflt (refine' newDict_K ?k1 ?k2 (TopRead.nolimit (by k_asm)) ?_; (case k1 => k_asm); (case k2 => k_asm); k_whole); intro d' h' o' F' N' l1 lo' hs' fs' hi' fi'; (try k_lt l1); (try k_sweep))
  k_with "ktr_room" => (refine room_of ?_; (try simp +zetaDelta only [depth_under_make, depth_under_kw, depth_in1, depth_deeper]); (try dsimp only [ktrTop]); (first | exact rl1 (by assumption) (by exact rfl) | exact rl2 (by assumption) (by exact rfl) | exact rl3 (by assumption) (by exact rfl) | omega))
  k_with "ktr_enter" => (refine' code_def ?k1 ?k2 ?k3 ?k4 ?k5 ?kA ?kF ?kK ?k6 ?k7 ?k8 ?k9 ?kB ?_ ?c2 ?c3 ?c4 ?c5; (case kA => exact rfl); (case kF => exact rfl); (case kK => first | exact rfl | assumption); (case k1 => k_asm); (case k2 => k_asm); (case k3 => k_asm); (case k4 => k_asm); (case k5 => k_asm); (case k6 => k_is); (case k7 => k_is); (case k8 => ktr_room); (case k9 => first | exact BindsTo.of_eq rfl | exact binds_K (by k_in) rfl (by k_is) rfl rfl rfl); (case c5 => decide); (case kB => exact locs rfl); (case c2 => exact rfl); (case c3 => exact rfl); (case c4 => exact rfl); k_whole; intro g' L' h' FG' F' N' B' X' T'; (try dsimp only); (try k_fold); (try (refine let_enter ?_; intro M1 A1)))
  k_with "call ref" => (k_here; k_dflt (first
  | (refine wpAny_call ?_; ktr_enter)
  | (refine' call_cls0 ?k1 ?k2 ?k3 ?k4 ?k5 ?_; (case k1 => k_asm); (case k2 => k_asm); (case k3 => k_asm); (case k4 => k_is); (case k5 => k_is); k_whole; intro x' d' h' F' N' l1 l2; (try k_lt l1); (try k_lt2 l2); (try k_sweep))
  | (refine' call_cls ?k1 ?k2 ?k3 ?k4 ?k5 ?k6 ?_; (case k1 => k_asm); (case k2 => k_asm); (case k3 => k_asm); (case k4 => k_is); (case k5 => k_is); (case k6 => k_is); k_whole; intro x' d' h' F' N' l1 l2; (try k_lt l1); (try k_lt2 l2); (try k_sweep); ktr_enter)
  | (refine' call_meth ?k1 ?k2 ?_; (case k1 => k_asm); (case k2 => k_mem); k_whole; ktr_enter)))
  k_with "ktr_units" => ((try simp +zetaDelta only [units_in1, units_deeper, Around.mark_units, units_make]); (try dsimp only [ktrTop]); first | exact rl1 (by assumption) (by exact rfl) | exact rl2 (by assumption) (by exact rfl) | exact rl3 (by assumption) (by exact rfl) | omega | ((show _ < (9900 : Nat)); omega))
  k_with "call type:frozenset" => (k_here; k_dflt (refine' fz_call ?F ?N ?m ?d ?z ?_; (case F => k_asm); (case N => k_asm); (case m => k_mem); (case d => k_asm); (case z => k_asm)); intro D' h' tq' led' F' N' l1; (try k_lt l1))
  k_with "compareOp In int ref" => (k_here; k_dflt (refine' fz_in ?N ?m ?_; (case N => k_asm); (case m => k_mem)))
  k_with "call type:list" => (k_here; (with_reducible show wpAny _ _ (call (Value.type "list") [Value.ref _]) _ _ _); k_dflt (refine' list_copyK ?k1 ?k2 ?k3 ?_ ?z; (case k1 => k_asm); (case k2 => k_asm); (case k3 => exact News.isList (by k_asm) (by k_mem)); (case z => first | exact Nat.le_of_ble_eq_true rfl | omega); k_whole); intro D' c' h' F' N' l1; (try k_lt l1); (try k_sweep))
  k_with "k_mem" => (with_reducible kcf_m)
  k_with "k_get" => (with_reducible assumption)
  k_with "call builtin:len" => (k_here; (with_reducible show wpAny _ _ (call (Value.builtin "len") [Value.ref _]) _ _ _); k_dflt (refine' len_arr ?N ?m ?z ?_; (case N => k_asm); (case m => k_mem); (case z => (simp only [Array.size_push, List.size_toArray]; omega))))
  k_with "kcf_m" => (refine via (by assumption) ?_; kcf_m)
  k_with "subscriptTail Name Slice ref ref" => (k_here; (with_reducible show wpAny _ _ (subscriptTail _ _ (Value.ref _) (Value.ref _)) _ _ _); k_dflt (first
  | (refine' tup_head ?F ?N ?m ?h0 ?b ?e ?_ ?s ?t ?z; (case F => k_asm); (case N => k_asm); (case m => k_mem); (case h0 => decide); (case b => first | exact Nat.le_of_ble_eq_true rfl | (simp only [List.length_cons]; omega)); (case e => first | exact tk1 | exact dp1 | exact dp2 | exact rfl); (case s => with_unfolding_all rfl); (case t => kmk_pure); (case z => first | exact Nat.le_of_ble_eq_true rfl | (simp only [List.length_cons]; omega)))
  | (refine' tup_rest ?F ?N ?m ?h0 ?b ?e ?_ ?s ?t ?z; (case F => k_asm); (case N => k_asm); (case m => k_mem); (case h0 => decide); (case b => first | exact Nat.le_of_ble_eq_true rfl | (simp only [List.length_cons]; omega)); (case e => first | exact tk1 | exact dp1 | exact dp2 | exact rfl); (case s => with_unfolding_all rfl); (case t => kmk_pure); (case z => first | exact Nat.le_of_ble_eq_true rfl | (simp only [List.length_cons]; omega)))); intro D' h' F' N' l1; (try k_lt l1); (try k_sweep))
  k_with "subscriptTail" => (k_here; (with_reducible show wpAny _ _ (subscriptTail _ _ (Value.ref _) (Value.int _ _)) _ _ _); k_dflt (first
  | (refine' list_tailL ?N ?m ?a ?b ?x ?_ ?s; (case N => k_asm); (case m => k_mem); (case a => decide); (case b => decide); (case x => first | exact rfl | assumption); (case s => with_unfolding_all rfl))
  | (refine' dict_tail (knd := intKind _ _) ?N ?m ?d ?k ?v ?_ ?s; (case N => k_asm); (case m => k_mem); (case d => with_reducible assumption); (case k => exact intKind_is _ _ _ _); (case v => first | with_reducible assumption | exact rfl); (case s => with_unfolding_all rfl))))
  k_with "subscriptTail" => (k_here; (with_reducible show wpAny _ _ (subscriptTail _ _ (Value.ref _) (Value.str _ _)) _ _ _); k_dflt
  (refine' dict_tail (knd := strKind _ _) ?N ?m ?d ?k ?v ?_ ?s; (case N => k_asm); (case m => k_mem); (case d => with_reducible assumption); (case k => exact strKind_is _ _ _ _); (case v => exact rfl); (case s => with_unfolding_all rfl)))
  k_with "getItem ref str" => (k_here; k_dflt
  (refine' dict_get (knd := strKind _ _) ?N ?m ?d ?k ?v ?_; (case N => k_asm); (case m => k_mem); (case d => with_reducible assumption); (case k => exact strKind_is _ _ _ _); (case v => exact rfl)))
  k_with "compareOp In int ref" => (k_here; k_dflt (refine' fz_in' ?N ?m ?b ?_; (case N => k_asm); (case m => k_mem); (case b => first | assumption | exact rfl)))
  k_with "binaryOp Add ref ref" => (k_here; k_dflt (refine' tup_add ?F ?N ?a ?b ?v ?w ?z ?e ?_; (case F => k_asm); (case N => k_asm); (case a => k_mem); (case b => k_mem); (case v => first | exact List.cons_ne_nil _ _ | assumption); (case w => first | exact List.cons_ne_nil _ _ | assumption); (case z => first | exact Nat.le_of_ble_eq_true rfl | (simp only [List.length_cons, List.length_nil]; omega)); (case e => first | exact ap1 | exact ap2 | exact rfl)); intro D' h' F' N' l1; (try k_lt l1); (try k_sweep))
  k_with "call ref" => (k_here; (with_reducible show wpAny _ _ (call (Value.ref 444) _) _ _ _); k_dflt (refine' runs_use (c_takeU ?U ?h0 ?h1) ?B ?F ?X ?N ?T ?k ?d ?u ?_; (case B => k_asm); (case F => k_asm); (case X => k_asm); (case N => k_asm); (case U => k_updF); (case h0 => first | decide | (simp; omega)); (case h1 => first | decide | (simp; omega)); (case T => k_asm); (case k => exact rfl); (case d => ((try simp +zetaDelta only [depth_under_make, depth_under_kw, depth_in1, depth_deeper]); (try dsimp only [ktrTop]); (first | exact rl1 (by assumption) (by exact rfl) | exact rl2 (by assumption) (by exact rfl) | exact rl3 (by assumption) (by exact rfl) | omega))); (case u => ktr_units); intro r9 post9 h9 tk9 F' N' P9; revert P9; (refine ex7 ?_); intro j9 u9 a9 ta9 b9 tb9 k9 P9; revert P9; (refine an4 ?_); intro e9 h09 h19 e8; subst e9; (replace N' := newsEq N' e8); (first | clear e8 post9 | subst e8); (try dsimp only at N'); (try dsimp only); (try k_sweep)))
  k_with "eval Call" => (k_fold; (try (refine tok_gen ?_; intro tkz)))
  k_with "eval Call Attribute" => (k_fold; (try (refine tok_gen ?_; intro tkz)))
  k_with "eval Tuple" => (k_fold; (try (refine tok_gen ?_; intro tkz)))
  trivial
theorem c_number {w : World} (rest : List (Addr × Obj)) {ls : Addr} {a b : Int} {ta tb : Tok} {k : Nat} (ho : ∀ p ∈ rest, p.1 ≠ ls) :
  Runs w 472 [.ref ls] ((ls, srcO a b ta tb k) :: rest) 8 60 (fun r post => ∃ x vs kk a' b' ta' tb' k', r = .ref x ∧ post = (x, tupO vs) :: (ls, srcO a' b' ta' tb' k') :: rest ∧ (ls < x ∧ AllLt x rest) ∧ ∀ led, (x, tupO vs) ∈ led → NumIn led (.ref x) kk) := by
  unfold Runs
  k_fill
  intro p loose mean mg mb dp un gd cn cs a ccd cl outer A₀ base h₀ L m s Q E B F X N T hk hd hu ret
  k_steps
  all_goals first
    | exact ret _ _ _ _ (by k_asm) (by k_asm) ⟨_, _, .loc, _, _, _, _, _, rfl, rfl, by assumption, fun _ h => .loc h⟩
    | exact ret _ _ _ _ (by k_asm) (by k_asm) ⟨_, _, .cst _, _, _, _, _, _, rfl, rfl, by assumption, fun _ h => .cst h⟩
theorem w_C34_1 : True := by
  k_with "call ref" => (k_here; (with_reducible show wpAny _ _ (call (Value.ref 444) _) _ _ _); k_dflt (refine' runs_use (c_takeU ?U ?h0 ?h1) ?B ?F ?X ?N ?T ?k ?d ?u ?_; (case B => k_asm); (case F => k_asm); (case X => k_asm); (case N => k_asm); (case U => k_updF); (case h0 => first | decide | (simp; omega)); (case h1 => first | decide | (simp; omega)); (case T => k_asm); (case k => exact rfl); (case d => ((try simp +zetaDelta only [depth_under_make, depth_under_kw, depth_in1, depth_deeper]); (try dsimp only [ktrTop]); (first | exact rl1 (by assumption) (by exact rfl) | exact rl2 (by assumption) (by exact rfl) | exact rl3 (by assumption) (by exact rfl) | omega))); (case u => ktr_units); intro r9 post9 h9 tk9 F' N' P9; revert P9; (refine ex7 ?_); intro j9 u9 a9 ta9 b9 tb9 k9 P9; revert P9; (refine an4 ?_); intro e9 h09 h19 e8; subst e9; (replace N' := newsEq N' e8); (first | clear e8 post9 | subst e8); (try dsimp only at N'); obtain ⟨v9, hv9, hm9, hz9⟩ := pick_of (by assumption) h09 h19; (try dsimp only); (try k_sweep)))
  k_with "subscriptTail" => (k_here; (with_reducible show wpAny _ _ (subscriptTail _ _ (Value.ref _) (Value.int _ _)) _ _ _); k_dflt (refine' list_tailL ?N ?m ?a ?b ?x ?_ ?s; (case N => k_asm); (case m => k_mem); (case a => first | decide | assumption | omega); (case b => first | decide | assumption | omega); (case x => first | with_reducible assumption | exact rfl); (case s => with_unfolding_all rfl)))
  trivial
theorem c_one {w : World} (rest : List (Addr × Obj)) {ls lt : Addr} {a b : Int} {ta tb : Tok} {k kt : Nat} {vs : List Value} (ho : ∀ p ∈ rest, p.1 ≠ ls) (hm : (lt, listOf vs.toArray kt) ∈ rest) (hl : 0 < vs.length) (hl2 : vs.length ≤ 100) :
  Runs w 451 [.ref ls, .ref lt] ((ls, srcO a b ta tb k) :: rest) 8 60 (fun r post => ∃ a' b' ta' tb' k', r ∈ vs ∧ post = (ls, srcO a' b' ta' tb' k') :: rest) := by
  unfold Runs
  k_fill
  intro p loose mean mg mb dp un gd cn cs a ccd cl outer A₀ base h₀ L m s Q E B F X N T hk hd hu ret
  k_steps
  exact ret _ _ _ _ (by k_asm) (by k_asm) ⟨_, _, _, _, _, by assumption, rfl⟩
theorem allLt_mem {d : Nat} : ∀ {l : List (Addr × Obj)}, AllLt d l → ∀ p ∈ l, @LT.lt Nat _ p.1 d
  | [], _, _, h => nomatch h
  | _ :: _, ⟨a, _⟩, _, .head _ => a
  | _ :: _, ⟨_, b⟩, p, .tail _ h => allLt_mem b p h
theorem mid_sub {p1 p2 : List (Addr × Obj)} {a b : Addr × Obj} : ∀ p ∈ a :: (p1 ++ p2), p ∈ p1 ++ a :: p2 := fun p hp => by
  rcases List.mem_cons.mp hp with rfl | hp
  · exact List.mem_append.mpr (.inr (.head _))
  · exact (List.mem_append.mp hp).elim (fun h => List.mem_append.mpr (.inl h)) fun h => List.mem_append.mpr (.inr (.tail _ h))
theorem mid_sub' {p1 p2 : List (Addr × Obj)} {a : Addr × Obj} : ∀ p ∈ p1 ++ a :: p2, p ∈ a :: (p1 ++ p2) := fun p hp => by
  rcases List.mem_append.mp hp with hp | hp
  · exact .tail _ (List.mem_append.mpr (.inl hp))
  · rcases List.mem_cons.mp hp with rfl | hp
    · exact .head _
    · exact .tail _ (List.mem_append.mpr (.inr hp))
theorem c_numberU {w : World} {pre : List (Addr × Obj)} {g : Obj → List (Addr × Obj)} {ls : Addr} {a b : Int} {ta tb : Tok} {k : Nat} (U : UpdF ls (srcO a b ta tb k) pre g) :
  Runs w 472 [.ref ls] pre 8 60 (fun r post => ∃ x vs kk a' b' ta' tb' k', r = .ref x ∧ post = (x, tupO vs) :: g (srcO a' b' ta' tb' k') ∧ (∀ p ∈ pre, p.1 < x) ∧ ∀ led, (x, tupO vs) ∈ led → NumIn led (.ref x) kk) := by
  obtain ⟨p1, p2, rfl, hg, o1, o2⟩ := U.split
  refine ((c_number (a := a) (b := b) (ta := ta) (tb := tb) (k := k) (p1 ++ p2) fun p hp => (List.mem_append.mp hp).elim (o1 p) (o2 p)).pre (mid_sub (b := (ls, srcO a b ta tb k)))).monoS ?_
  rintro r post ⟨x, vs, kk, a', b', ta', tb', k', e, rfl, ⟨l1, l2⟩, hn⟩
  refine ⟨(x, tupO vs) :: g (srcO a' b' ta' tb' k'), ?_, x, vs, kk, a', b', ta', tb', k', e, rfl, ?_, hn⟩
  · rw [hg]
    refine List.forall_mem_cons.mpr ⟨.head _, fun p hp => .tail _ (mid_sub' p hp)⟩
  · intro p hp
    rcases List.mem_cons.mp (mid_sub' p hp) with rfl | hp
    · exact l1
    · exact allLt_mem l2 p hp
theorem c_oneU {arr : Array Value} {w : World} {pre : List (Addr × Obj)} {g : Obj → List (Addr × Obj)} {ls lt : Addr} {a b : Int} {ta tb : Tok} {k kt : Nat} {vs : List Value} (U : UpdF ls (srcO a b ta tb k) pre g) (hm : (lt, listOf arr kt) ∈ pre) (he : arr = vs.toArray) (hne : lt ≠ ls) (hl : 0 < vs.length) (hl2 : vs.length ≤ 100) :
  Runs w 451 [.ref ls, .ref lt] pre 8 60 (fun r post => ∃ a' b' ta' tb' k', r ∈ vs ∧ post = g (srcO a' b' ta' tb' k')) := by
  subst he
  obtain ⟨p1, p2, rfl, hg, o1, o2⟩ := U.split
  have hm' : (lt, listOf vs.toArray kt) ∈ p1 ++ p2 := by
    rcases List.mem_cons.mp (mid_sub' _ hm) with h | h
    · exact absurd (congrArg Prod.fst h) hne
    · exact h
  refine ((c_one (a := a) (b := b) (ta := ta) (tb := tb) (k := k) (p1 ++ p2) (fun p hp => (List.mem_append.mp hp).elim (o1 p) (o2 p)) hm' hl hl2).pre (mid_sub (b := (ls, srcO a b ta tb k)))).monoS ?_
  rintro r post ⟨a', b', ta', tb', k', hr, rfl⟩
  refine ⟨g (srcO a' b' ta' tb' k'), ?_, a', b', ta', tb', k', hr, rfl⟩
  rw [hg]
  exact fun p hp => mid_sub' p hp
theorem TyIn.upT {led led' : List (Addr × Obj)} (hs : ∀ a vs, (a, tupO vs) ∈ led → (a, tupO vs) ∈ led') {v : Value} {τ : Ty} : TyIn led v τ → TyIn led' v τ
  | .int => .int | .pair => .pair | .row => .row | .slice => .slice | .arr h => .arr (hs _ _ h)
theorem NumIn.upT {led led' : List (Addr × Obj)} (hs : ∀ a vs, (a, tupO vs) ∈ led → (a, tupO vs) ∈ led') {v : Value} {n : Num} : NumIn led v n → NumIn led' v n
  | .loc h => .loc (hs _ _ h) | .cst h => .cst (hs _ _ h)
theorem PlIn.upT {led led' : List (Addr × Obj)} (hs : ∀ a vs, (a, tupO vs) ∈ led → (a, tupO vs) ∈ led') : ∀ {v : Value} {p : Pl}, PlIn led v p → PlIn led' v p
  | _, _, .v0 h a => .v0 (hs _ _ h) (a.upT hs)
  | _, _, .w4 h a => .w4 (hs _ _ h) (a.upT hs)
  | _, _, .glob h a => .glob (hs _ _ h) (a.upT hs)
  | _, _, .dc h a b c d e => .dc (hs _ _ h) (a.upT hs) (hs _ _ b) (hs _ _ c) (hs _ _ d) (hs _ _ e)
  | _, _, .dl h a b c => .dl (hs _ _ h) (a.upT hs) (hs _ _ b) (hs _ _ c)
  | _, _, .sl h a b n => .sl (hs _ _ h) (a.upT hs) (hs _ _ b) (n.upT hs)
  | _, _, .fld h a r => .fld (hs _ _ h) (a.upT hs) (PlIn.upT hs r)
  | _, _, .idx h a r e n => .idx (hs _ _ h) (a.upT hs) (PlIn.upT hs r) e (n.upT hs)
theorem off_tup {h₀ h : Heap} {L I : Addr} {o : Obj} {led : List (Addr × Obj)} (N : News h₀ L h led) (hI : (I, o) ∈ led) (hc : (Value.type "tuple") ≠ o.cls) : ∀ a vs, (a, tupO vs) ∈ led → (a, tupO vs) ∈ offI I led := fun a vs hm =>
  offI_mem.mpr ⟨hm, news_ne N hm hI hc⟩
theorem tup_li : Value.type "tuple" ≠ .type "list" := by decide
theorem tup_ri : Value.type "tuple" ≠ .type "range_iterator" := by decide
def PlF (ls : Addr) (rest rest' : List (Addr × Obj)) (r : Value) : Prop := (∀ q ∈ rest', q.1 ≠ ls) ∧ (∀ q ∈ rest, q ∈ rest') ∧ ∃ p, PlIn rest' r p ∧ p.size ≤ 1
theorem place_start {h₀ h : Heap} {L ls : Addr} {LED rest : List (Addr × Obj)} {a b : Int} {ta tb : Tok} {k : Nat} {r v0 v1 v2 v3 v4 v5 : Value} {kk : Num} {C : Prop} (hr : r ∈ [v0, v1, v2, v3, v4, v5]) (N : News h₀ L h LED) (hl : (ls, srcO a b ta tb k) ∈ LED)
    (h0 : PlIn LED v0 (.v0 .int)) (h1 : PlIn LED v1 (.w4 .int)) (h2 : PlIn LED v2 (.glob .int)) (h3 : PlIn LED v3 (.dc .int)) (h4 : PlIn LED v4 (.dl .int)) (h5 : PlIn LED v5 (.sl .int kk)) (up : ∀ q ∈ rest, q ∈ LED) (ho : ∀ q ∈ rest, q.1 ≠ ls)
    (K : ∀ rest', News h₀ L h ((ls, srcO a b ta tb k) :: rest') → (∀ q ∈ rest', q.1 ≠ ls) → PlF ls rest rest' r → C) : C := by
  have hp : ∃ p, PlIn LED r p ∧ p.size ≤ 1 := by
    simp only [List.mem_cons, List.not_mem_nil, or_false] at hr
    rcases hr with rfl | rfl | rfl | rfl | rfl | rfl
    · exact ⟨_, h0, Nat.le_refl _⟩
    · exact ⟨_, h1, Nat.le_refl _⟩
    · exact ⟨_, h2, Nat.le_refl _⟩
    · exact ⟨_, h3, Nat.le_refl _⟩
    · exact ⟨_, h4, Nat.le_refl _⟩
    · exact ⟨_, h5, Nat.le_refl _⟩
  obtain ⟨p, hp, hz⟩ := hp
  exact K (offI ls LED) (List.forall_mem_cons.mpr ⟨N _ hl, fun q hq => N q (offI_mem.mp hq).1⟩) (fun q hq => (offI_mem.mp hq).2) ⟨fun q hq => (offI_mem.mp hq).2, fun q hq => offI_mem.mpr ⟨up q hq, ho q hq⟩, p, hp.upT (off_tup N hl tup_li), hz⟩
def formP (m₀ : Str → Option Value) (v : Value) (u : Option Value) : Str → Option Value := fun z => if z = Str.ofString "place" then some v else if z = Str.ofString "turn" then u else m₀ z
theorem formP_of {m' m₀ : Str → Option Value} {v : Value} (hp : m' (Str.ofString "place") = some v) (ho : ∀ z, z ≠ Str.ofString "place" → z ≠ Str.ofString "turn" → m' z = m₀ z) : m' = formP m₀ v (m' (Str.ofString "turn")) := by
  funext z
  unfold formP
  by_cases a : z = Str.ofString "place"
  · subst a; rw [if_pos rfl, hp]
  · rw [if_neg a]
    by_cases b : z = Str.ofString "turn"
    · subst b; rw [if_pos rfl]
    · rw [if_neg b]; exact ho z a b
def PlJ (ls I : Addr) (rest : List (Addr × Obj)) (m₀ : Str → Option Value) (i : Nat) (m : Str → Option Value) (news : List (Addr × Obj)) : Prop :=
  ∃ (u : Option Value) (v : Value) (p : Pl) (rest' : List (Addr × Obj)) (a b : Int) (ta tb : Tok) (k : Nat), m = formP m₀ v u ∧ (∀ q ∈ (ls, srcO a b ta tb k) :: rest', q ∈ news) ∧ (∀ q ∈ rest', q.1 ≠ ls) ∧ (∀ q ∈ rest', q.1 ≠ I) ∧ (∀ q ∈ rest, q ∈ rest') ∧ PlIn rest' v p ∧ p.size ≤ i + 1
theorem pl_end {h₀ h' : Heap} {L ls I : Addr} {rest LED : List (Addr × Obj)} {m₀ m' : Str → Option Value} {s₁ : Shared} {tk i k : Nat} {x y : Int} {a b : Int} {ta tb : Tok} {v : Value} {p : Pl}
    (F : Fr h₀ L h' m') (N : News h₀ L h' LED) (hl : (ls, srcO a b ta tb k) ∈ LED) (hI : (I, itR x y) ∈ LED) (up : ∀ q ∈ rest, q ∈ LED) (r1 : ∀ q ∈ rest, q.1 ≠ ls) (r2 : ∀ q ∈ rest, q.1 ≠ I) (r3 : ls ≠ I) (P : PlIn LED v p) (hz : p.size ≤ i + 2)
    (hp : m' (Str.ofString "place") = some v) (ho : ∀ z, z ≠ Str.ofString "place" → z ≠ Str.ofString "turn" → m' z = m₀ z) :
    UnrEnd h₀ L s₁ I (itR x y) (PlJ ls I rest m₀ (i + 1)) { s₁ with heap := h', toks := tk } := by
  have hc : ∀ a vs, (a, tupO vs) ∈ LED → (a, tupO vs) ∈ offI I (offI ls LED) := fun a vs hm => offI_mem.mpr ⟨off_tup N hl tup_li a vs hm, news_ne N hm hI tup_ri⟩
  have hs : ∀ q ∈ offI I (offI ls LED), q ∈ LED := fun q hq => (offI_mem.mp (offI_mem.mp hq).1).1
  refine ⟨h', tk, m', (ls, srcO a b ta tb k) :: offI I (offI ls LED), rfl, F, List.forall_mem_cons.mpr ⟨N _ hI, List.forall_mem_cons.mpr ⟨N _ hl, fun q hq => N q (hs q hq)⟩⟩, List.forall_mem_cons.mpr ⟨r3, fun q hq => (offI_mem.mp hq).2⟩, _, v, p, offI I (offI ls LED), a, b, ta, tb, k, formP_of hp ho, fun _ h => h, fun q hq => (offI_mem.mp (offI_mem.mp hq).1).2, fun q hq => (offI_mem.mp hq).2, fun q hq => offI_mem.mpr ⟨offI_mem.mpr ⟨up q hq, r1 q hq⟩, r2 q hq⟩, P.upT hc, hz⟩
def PlP (rest : List (Addr × Obj)) (r : Value) (post : List (Addr × Obj)) : Prop := ∃ p rest', (∀ q ∈ rest, q ∈ rest') ∧ (∀ q ∈ rest', q ∈ post) ∧ PlIn rest' r p ∧ p.size ≤ 4
theorem turn_news {h₀ h : Heap} {L ls I : Addr} {it o : Obj} {news rest' : List (Addr × Obj)} (N : News h₀ L h ((I, it) :: news)) (hs : ∀ q ∈ (ls, o) :: rest', q ∈ news) (o1 : ∀ q ∈ rest', q.1 ≠ ls) (i1 : ls ≠ I) : News h₀ L h ((ls, o) :: (I, it) :: rest') ∧ ∀ q ∈ (I, it) :: rest', q.1 ≠ ls :=
  ⟨News.sub N (List.forall_mem_cons.mpr ⟨.tail _ (hs _ (.head _)), List.forall_mem_cons.mpr ⟨.head _, fun q hq => .tail _ (hs q (.tail _ hq))⟩⟩), List.forall_mem_cons.mpr ⟨Ne.symm i1, o1⟩⟩
theorem w_C35_0 : True := by
  w_top off
  k_with_none
  k_with "k_all" => (assumption)
  k_with "eval Dict" => (k_here; k_dflt (first
  | (refine' kdn_str ?q ?F ?N ?b ?a ?l ?e ?n ?_; (case q => rfl); (case F => k_asm); (case N => first | k_asm | exact News.nil); (case b => exact Top.nolimit (by k_asm)); (case a => rfl); (case l => rfl); (case e => exact List.cons_ne_nil _ _); (case n => exact Nat.le_of_ble_eq_true rfl))
  | (refine' kdn_int ?q ?F ?N ?b ?a ?l ?e ?n ?_; (case q => rfl); (case F => k_asm); (case N => first | k_asm | exact News.nil); (case b => exact Top.nolimit (by k_asm)); (case a => rfl); (case l => rfl); (case e => exact List.cons_ne_nil _ _); (case n => exact Nat.le_of_ble_eq_true rfl))); intro d' h' o' F' N' l1 lo' hd'; (try k_lt l1))
  k_with "eval Dict nil nil" => (k_here; k_dflt (refine' newDict_K ?k1 ?k2 (TopRead.nolimit (by k_asm)) ?_; (case k1 => k_asm); (case k2 => k_asm); k_whole); intro d' h' o' F' N' l1 lo' hs' fs' hi' fi'; (try k_lt l1); (try k_sweep))
  k_with "ktr_room" => (refine room_of ?_; (try simp +zetaDelta only [depth_under_make, depth_under_kw, depth_in1, depth_deeper]); (try dsimp only [ktrTop]); (first | exact rl1 (by assumption) (by exact rfl) | exact rl2 (by assumption) (by exact rfl) | exact rl3 (by assumption) (by exact rfl) | omega))
  k_with "ktr_enter" => (refine' code_def ?k1 ?k2 ?k3 ?k4 ?k5 ?kA ?kF ?kK ?k6 ?k7 ?k8 ?k9 ?kB ?_ ?c2 ?c3 ?c4 ?c5; (case kA => exact rfl); (case kF => exact rfl); (case kK => first | exact rfl | assumption); (case k1 => k_asm); (case k2 => k_asm); (case k3 => k_asm); (case k4 => k_asm); (case k5 => k_asm); (case k6 => k_is); (case k7 => k_is); (case k8 => ktr_room); (case k9 => first | exact BindsTo.of_eq rfl | exact binds_K (by k_in) rfl (by k_is) rfl rfl rfl); (case c5 => decide); (case kB => exact locs rfl); (case c2 => exact rfl); (case c3 => exact rfl); (case c4 => exact rfl); k_whole; intro g' L' h' FG' F' N' B' X' T'; (try dsimp only); (try k_fold); (try (refine let_enter ?_; intro M1 A1)))
  k_with "call ref" => (k_here; k_dflt (first
  | (refine wpAny_call ?_; ktr_enter)
  | (refine' call_cls0 ?k1 ?k2 ?k3 ?k4 ?k5 ?_; (case k1 => k_asm); (case k2 => k_asm); (case k3 => k_asm); (case k4 => k_is); (case k5 => k_is); k_whole; intro x' d' h' F' N' l1 l2; (try k_lt l1); (try k_lt2 l2); (try k_sweep))
  | (refine' call_cls ?k1 ?k2 ?k3 ?k4 ?k5 ?k6 ?_; (case k1 => k_asm); (case k2 => k_asm); (case k3 => k_asm); (case k4 => k_is); (case k5 => k_is); (case k6 => k_is); k_whole; intro x' d' h' F' N' l1 l2; (try k_lt l1); (try k_lt2 l2); (try k_sweep); ktr_enter)
  | (refine' call_meth ?k1 ?k2 ?_; (case k1 => k_asm); (case k2 => k_mem); k_whole; ktr_enter)))
  k_with "ktr_units" => ((try simp +zetaDelta only [units_in1, units_deeper, Around.mark_units, units_make]); (try dsimp only [ktrTop]); first | exact rl1 (by assumption) (by exact rfl) | exact rl2 (by assumption) (by exact rfl) | exact rl3 (by assumption) (by exact rfl) | omega | ((show _ < (9900 : Nat)); omega))
  k_with "call type:frozenset" => (k_here; k_dflt (refine' fz_call ?F ?N ?m ?d ?z ?_; (case F => k_asm); (case N => k_asm); (case m => k_mem); (case d => k_asm); (case z => k_asm)); intro D' h' tq' led' F' N' l1; (try k_lt l1))
  k_with "compareOp In int ref" => (k_here; k_dflt (refine' fz_in ?N ?m ?_; (case N => k_asm); (case m => k_mem)))
  k_with "call type:list" => (k_here; (with_reducible show wpAny _ _ (call (Value.type "list") [Value.ref _]) _ _ _); k_dflt (refine' list_copyK ?k1 ?k2 ?k3 ?_ ?z; (case k1 => k_asm); (case k2 => k_asm); (case k3 => exact News.isList (by k_asm) (by k_mem)); (case z => first | exact Nat.le_of_ble_eq_true rfl | omega); k_whole); intro D' c' h' F' N' l1; (try k_lt l1); (try k_sweep))
  k_with "k_mem" => (with_reducible kcf_m)
  k_with "k_get" => (with_reducible assumption)
  k_with "call builtin:len" => (k_here; (with_reducible show wpAny _ _ (call (Value.builtin "len") [Value.ref _]) _ _ _); k_dflt (refine' len_arr ?N ?m ?z ?_; (case N => k_asm); (case m => k_mem); (case z => (simp only [Array.size_push, List.size_toArray]; omega))))
  k_with "subscriptTail Name Slice ref ref" => (k_here; (with_reducible show wpAny _ _ (subscriptTail _ _ (Value.ref _) (Value.ref _)) _ _ _); k_dflt (first
  | (refine' tup_head ?F ?N ?m ?h0 ?b ?e ?_ ?s ?t ?z; (case F => k_asm); (case N => k_asm); (case m => k_mem); (case h0 => decide); (case b => first | exact Nat.le_of_ble_eq_true rfl | (simp only [List.length_cons]; omega)); (case e => first | exact tk1 | exact dp1 | exact dp2 | exact rfl); (case s => with_unfolding_all rfl); (case t => kmk_pure); (case z => first | exact Nat.le_of_ble_eq_true rfl | (simp only [List.length_cons]; omega)))
  | (refine' tup_rest ?F ?N ?m ?h0 ?b ?e ?_ ?s ?t ?z; (case F => k_asm); (case N => k_asm); (case m => k_mem); (case h0 => decide); (case b => first | exact Nat.le_of_ble_eq_true rfl | (simp only [List.length_cons]; omega)); (case e => first | exact tk1 | exact dp1 | exact dp2 | exact rfl); (case s => with_unfolding_all rfl); (case t => kmk_pure); (case z => first | exact Nat.le_of_ble_eq_true rfl | (simp only [List.length_cons]; omega)))); intro D' h' F' N' l1; (try k_lt l1); (try k_sweep))
  k_with "subscriptTail" => (k_here; (with_reducible show wpAny _ _ (subscriptTail _ _ (Value.ref _) (Value.int _ _)) _ _ _); k_dflt (first
  | (refine' list_tailL ?N ?m ?a ?b ?x ?_ ?s; (case N => k_asm); (case m => k_mem); (case a => decide); (case b => decide); (case x => first | exact rfl | assumption); (case s => with_unfolding_all rfl))
  | (refine' dict_tail (knd := intKind _ _) ?N ?m ?d ?k ?v ?_ ?s; (case N => k_asm); (case m => k_mem); (case d => with_reducible assumption); (case k => exact intKind_is _ _ _ _); (case v => first | with_reducible assumption | exact rfl); (case s => with_unfolding_all rfl))))
  k_with "subscriptTail" => (k_here; (with_reducible show wpAny _ _ (subscriptTail _ _ (Value.ref _) (Value.str _ _)) _ _ _); k_dflt
  (refine' dict_tail (knd := strKind _ _) ?N ?m ?d ?k ?v ?_ ?s; (case N => k_asm); (case m => k_mem); (case d => with_reducible assumption); (case k => exact strKind_is _ _ _ _); (case v => exact rfl); (case s => with_unfolding_all rfl)))
  k_with "getItem ref str" => (k_here; k_dflt
  (refine' dict_get (knd := strKind _ _) ?N ?m ?d ?k ?v ?_; (case N => k_asm); (case m => k_mem); (case d => with_reducible assumption); (case k => exact strKind_is _ _ _ _); (case v => exact rfl)))
  k_with "compareOp In int ref" => (k_here; k_dflt (refine' fz_in' ?N ?m ?b ?_; (case N => k_asm); (case m => k_mem); (case b => first | assumption | exact rfl)))
  k_with "binaryOp Add ref ref" => (k_here; k_dflt (refine' tup_add ?F ?N ?a ?b ?v ?w ?z ?e ?_; (case F => k_asm); (case N => k_asm); (case a => k_mem); (case b => k_mem); (case v => first | exact List.cons_ne_nil _ _ | assumption); (case w => first | exact List.cons_ne_nil _ _ | assumption); (case z => first | exact Nat.le_of_ble_eq_true rfl | (simp only [List.length_cons, List.length_nil]; omega)); (case e => first | exact ap1 | exact ap2 | exact rfl)); intro D' h' F' N' l1; (try k_lt l1); (try k_sweep))
  k_with "compareOp Eq ref ref" => (k_here; (with_reducible show wpAny _ _ (compareOp _ (Value.ref _) (Value.ref 430)) _ _ _); k_dflt (refine' ty_eq_slice ?F ?X ?N ?h ?b ?u ?_; (case F => k_asm); (case X => k_asm); (case N => k_asm); (case h => first | exact TyIn.slice | (refine TyIn.mono ?_ (by assumption); kat_tups)); (case b => first | assumption | exact rfl); (case u => ktr_units)))
  k_with "compareOp NotEq ref ref" => (k_here; (with_reducible show wpAny _ _ (compareOp _ (Value.ref _) (Value.ref 430)) _ _ _); k_dflt (first | (refine' slice_ne ?F ?X ?N ?u ?_; (case F => k_asm); (case X => k_asm); (case N => k_asm); (case u => ktr_units)) | (refine' ty_ne_slice ?F ?X ?N ?h ?b ?u ?_; (case F => k_asm); (case X => k_asm); (case N => k_asm); (case h => (refine TyIn.mono ?_ (by assumption); kat_tups)); (case b => assumption); (case u => ktr_units))))
  k_with "subscriptTail" => (k_here; (with_reducible show wpAny _ _ (subscriptTail _ _ (Value.ref _) (Value.int _ _)) _ _ _); k_dflt (refine' tup_item ?N ?m ?a ?b ?x ?_ ?s; (case N => k_asm); (case m => k_mem); (case a => decide); (case b => decide); (case x => exact rfl); (case s => with_unfolding_all rfl)))
  k_with "call ref" => (k_here; (with_reducible show wpAny _ _ (call (Value.ref 444) _) _ _ _); k_dflt (refine' runs_use (c_takeU ?U ?h0 ?h1) ?B ?F ?X ?N ?T ?k ?d ?u ?_; (case B => k_asm); (case F => k_asm); (case X => k_asm); (case N => k_asm); (case U => k_updF); (case h0 => first | decide | (simp; omega)); (case h1 => first | decide | (simp; omega)); (case T => k_asm); (case k => exact rfl); (case d => ((try simp +zetaDelta only [depth_under_make, depth_under_kw, depth_in1, depth_deeper]); (try dsimp only [ktrTop]); (first | exact rl1 (by assumption) (by exact rfl) | exact rl2 (by assumption) (by exact rfl) | exact rl3 (by assumption) (by exact rfl) | omega))); (case u => ktr_units); intro r9 post9 h9 tk9 F' N' P9; revert P9; (refine ex7 ?_); intro j9 u9 a9 ta9 b9 tb9 k9 P9; revert P9; (refine an4 ?_); intro e9 h09 h19 e8; subst e9; (replace N' := newsEq N' e8); (first | clear e8 post9 | subst e8); (try dsimp only at N'); (try dsimp only); (try k_sweep)))
  k_with "call ref" => (k_here; (with_reducible show wpAny _ _ (call (Value.ref 444) [_, Value.int 4 _]) _ _ _); k_dflt (refine' runs_use (c_takeU ?U ?h0 ?h1) ?B ?F ?X ?N ?T ?k ?d ?u ?_; (case B => k_asm); (case F => k_asm); (case X => k_asm); (case N => k_asm); (case U => k_updF); (case h0 => first | decide | (simp; omega)); (case h1 => first | decide | (simp; omega)); (case T => k_asm); (case k => exact rfl); (case d => ((try simp +zetaDelta only [depth_under_make, depth_under_kw, depth_in1, depth_deeper]); (try dsimp only [ktrTop]); (first | exact rl1 (by assumption) (by exact rfl) | exact rl2 (by assumption) (by exact rfl) | exact rl3 (by assumption) (by exact rfl) | omega))); (case u => ktr_units); intro r9 post9 h9 tk9 F' N' P9; revert P9; (refine ex7 ?_); intro j9 u9 a9 ta9 b9 tb9 k9 P9; revert P9; (refine an4 ?_); intro e9 h09 h19 e8; subst e9; (replace N' := newsEq N' e8); (first | clear e8 post9 | subst e8); (try dsimp only at N'); (obtain ⟨n9, e9, hn9, hs9, hr9⟩ := range_facts h09 h19); subst e9; (try dsimp only); (try k_sweep)))
  k_with "call ref" => (k_here; (with_reducible show wpAny _ _ (call (Value.ref 472) _) _ _ _); k_dflt (refine' runs_use (c_numberU ?U) ?B ?F ?X ?N ?T ?k ?d ?u ?_; (case B => k_asm); (case F => k_asm); (case X => k_asm); (case N => k_asm); (case U => k_updF); (case T => k_asm); (case k => exact rfl); (case d => ((try simp +zetaDelta only [depth_under_make, depth_under_kw, depth_in1, depth_deeper]); (try dsimp only [ktrTop]); (first | exact rl1 (by assumption) (by exact rfl) | exact rl2 (by assumption) (by exact rfl) | exact rl3 (by assumption) (by exact rfl) | omega))); (case u => ktr_units); intro r9 post9 h9 tk9 F' N' P9; revert P9; (refine ex8 ?_); intro x9 vs9 kk9 a9 b9 ta9 tb9 k9 P9; revert P9; (refine an4 ?_); intro e9 e8 l9 hn9; subst e9; (replace N' := newsEq N' e8); (first | clear e8 post9 | subst e8); (try dsimp only at N'); (try k_lt l9); (try dsimp only); (try k_sweep)))
  k_with "call ref" => (k_here; (with_reducible show wpAny _ _ (call (Value.ref 451) _) _ _ _); k_dflt (refine' runs_use (c_oneU ?U ?hm ?he ?ne ?l1 ?l2) ?B ?F ?X ?N ?T ?k ?d ?u ?_; (case B => k_asm); (case F => k_asm); (case X => k_asm); (case N => k_asm); (case U => k_updF); (case hm => k_mem); (case he => (simp only [push_list, List.cons_append, List.nil_append]; exact rfl)); (case ne => exact neN (by omega)); (case l1 => exact Nat.le_of_ble_eq_true rfl); (case l2 => exact Nat.le_of_ble_eq_true rfl); (case T => k_asm); (case k => exact rfl); (case d => ((try simp +zetaDelta only [depth_under_make, depth_under_kw, depth_in1, depth_deeper]); (try dsimp only [ktrTop]); (first | exact rl1 (by assumption) (by exact rfl) | exact rl2 (by assumption) (by exact rfl) | exact rl3 (by assumption) (by exact rfl) | omega))); (case u => ktr_units); intro r9 post9 h9 tk9 F' N' P9; revert P9; (refine ex5 ?_); intro a9 b9 ta9 tb9 k9 P9; revert P9; (refine an2 ?_); intro hr9 e8; (replace N' := newsEq N' e8); (first | clear e8 post9 | subst e8); (try dsimp only at N'); (refine' place_start hr9 N' ?hl ?h0 ?h1 ?h2 ?h3 ?h4 ?h5 ?up ?ho ?_; (case hl => k_mem); (case h0 => (refine' PlIn.v0 ?m TyIn.int; (case m => k_mem))); (case h1 => (refine' PlIn.w4 ?m TyIn.int; (case m => k_mem))); (case h2 => (refine' PlIn.glob ?m TyIn.int; (case m => k_mem))); (case h3 => (refine' PlIn.dc ?m TyIn.int ?a ?b ?c ?d; (case m => k_mem); (case a => k_mem); (case b => k_mem); (case c => k_mem); (case d => k_mem))); (case h4 => (refine' PlIn.dl ?m TyIn.int ?a ?b; (case m => k_mem); (case a => k_mem); (case b => k_mem))); (case h5 => (refine' PlIn.sl ?m TyIn.int ?a ?b; (case m => k_mem); (case a => k_mem); (case b => (refine (by assumption : ∀ led, _ → NumIn led _ _) _ (by k_mem))))); (case ho => assumption); (case up => kat_tups)); clear N'; intro rest9 N' o9 PF9; (try dsimp only); (try k_sweep)))
  k_with "pyIter ref" => (k_here; (with_reducible show wpAny _ _ (pyIter (Value.ref _)) (fun it s₂ => LoopAtV _ _ _ _ _ _ _ _ _ it s₂) _ _); (rename Fr _ _ _ _ => lF'); (rename News _ _ _ _ => lN'); (rename IsRange _ _ _ _ _ _ _ _ => rgX); (with_unfolding_all refine' iter_rangeStop ?h rgX ?s ?n lF' lN' ?_); (case h => with_unfolding_all rfl); (case s => assumption); (case n => assumption); clear lF' lN'; intro I1 lI)
  k_with "eval Call" => (k_fold; (try (refine tok_gen ?_; intro tkz)))
  k_with "eval Call Attribute" => (k_fold; (try (refine tok_gen ?_; intro tkz)))
  k_with "eval Tuple" => (k_fold; (try (refine tok_gen ?_; intro tkz)))
  trivial
theorem c_place {w : World} (rest : List (Addr × Obj)) {ls : Addr} {a b : Int} {ta tb : Tok} {k : Nat} (ho : ∀ p ∈ rest, p.1 ≠ ls) :
  Runs w 479 [.ref ls] ((ls, srcO a b ta tb k) :: rest) 20 150 (fun r post => PlP rest r post) := by
  unfold Runs
  k_fill
  intro p loose mean mg mb dp un gd cn cs a ccd cl outer A₀ base h₀ L m s Q E B F X N T hk hd hu ret
  k_steps
  unfold Stop
  obtain ⟨o9, up9, p9, hp9, hz9⟩ := (by assumption : PlF ls rest _ _)
  have i1 : ls ≠ I1 := Nat.ne_of_lt (lI _ (.head _))
  have i2 := fun q hq => Nat.ne_of_lt (lI q (.tail _ hq))
  have i3 : ∀ q ∈ rest, q.1 ≠ I1 := fun q hq => i2 q (up9 q hq)
  refine range_inv (PlJ ls I1 rest _) ?turn ?done _ 0 _ _ (Nat.zero_add _) ⟨_, _, p9, _, _, _, _, _, _, formP_of (by exact rfl) (fun _ _ _ => rfl), fun _ h => h, o9, i2, up9, hp9, hz9⟩
  case turn =>
    intro i m news hi HJ
    revert HJ
    refine ex9 ?_
    intro u v p rest' a b ta tb k HJ
    revert HJ
    refine an7 ?_
    intro em hs o1 o2 up P hz
    subst em
    intro t h tk F' N'
    have HJ := P.shape
    revert HJ
    refine ex5 ?_
    intro pa te tt ty xs HJ
    revert HJ
    refine an5 ?_
    intro ep hm hx hxl hre
    subst ep
    obtain ⟨N2, e1⟩ := turn_news N' hs o1 i1
    clear N' hs
    k_steps
    all_goals (try dsimp only [UnrPost])
    all_goals
      refine' pl_end ?F ?N ?hl ?hI ?up ho i3 i1 ?P ?hz ?hp ?ho
      case F => k_asm
      case N => k_asm
      case hl => k_mem
      case hI => k_mem
      case up => (refine sub_trans up ?_; kat_tups)
      case hp => exact rfl
      case P => first
        | (refine' PlIn.fld ?m TyIn.int ?r; (case m => k_mem); (case r => (refine' hre _ _ _ _ ?s ?b TyIn.pair; (case b => k_mem); (case s => kat_tups))))
        | (refine' PlIn.idx ?m TyIn.int ?r ?e ?n; (case m => k_mem); (case r => (refine' hre _ _ _ _ ?s ?b TyIn.row; (case b => k_mem); (case s => kat_tups))); (case e => (rw [re_ty]; rfl)); (case n => (refine (by assumption : ∀ led, _ → NumIn led _ _) _ (by k_mem))))
      case hz => (simp only [Pl.size, re_size]; omega)
      case ho => (intro z a b; simp [a, b, formP])
  case done =>
    intro m news HJ
    revert HJ
    refine ex9 ?_
    intro u v p rest' a b ta tb k HJ
    revert HJ
    refine an7 ?_
    intro em hs o1 o2 up P hz
    subst em
    intro h tk F' N'
    k_steps
    exact ret _ _ _ _ (by k_asm) (by k_asm) ⟨p, rest', up, fun q hq => hs q (.tail _ hq), P, by omega⟩
theorem Runs.monoN {w : World} {f : Addr} {args : List Value} {pre : List (Addr × Obj)} {dd uu : Nat} {Post Post' : Value → List (Addr × Obj) → Prop} (C : Runs w f args pre dd uu Post) (h : ∀ r post h₀ h' L, News h₀ L h' post → Post r post → Post' r post) : Runs w f args pre dd uu Post' := by
  unfold Runs at *
  intro p loose mean mg mb dp un gd cn cs a ccd cl outer A₀ base h₀ L m s Q E B F X N T hk hd' hu' ret
  exact C p loose mean mg mb dp un gd cn cs a ccd cl outer A₀ base h₀ L m s Q E B F X N T hk hd' hu' fun r post h' tk' F' N' P => ret r post h' tk' F' N' (h r post h₀ h' L N' P)
theorem WayIn.upT {led led' : List (Addr × Obj)} (hs : ∀ a vs, (a, tupO vs) ∈ led → (a, tupO vs) ∈ led') {v : Value} {y : Way} : WayIn led y v → WayIn led' y v
  | .mk a b c d => .mk (hs _ _ a) (hs _ _ b) (c.upT hs) (d.upT hs)
inductive Both (w : World) (st lr li db lb : Addr) (n1 : Nat) (ds1 : List Dat) (n2 : Nat) (ds2 : List Dat) (rest pre : List (Addr × Obj)) : Prop
  | mk {regs rows rowsB : List Value} {kr kl kb : Nat} {odb : Obj} {t : Tok} :
    (∀ q ∈ (lr, listOf regs.toArray kr) :: (li, listOf rows.toArray kl) :: (db, odb) :: (lb, listOf rowsB.toArray kb) :: rest, q ∈ pre) → regs.length = n1 → TAll (TL ++ rest) rows ds1 → IsBook w odb lb n2 t → TAll (TL ++ rest) rowsB ds2 → SIn w rest st lr li →
    (∀ q ∈ rest, q.1 ≠ lr) → (∀ q ∈ rest, q.1 ≠ li) → (∀ q ∈ rest, q.1 ≠ db) → (∀ q ∈ rest, q.1 ≠ lb) → lr ≠ li → db ≠ lb → lr ≠ db → lr ≠ lb → li ≠ db → li ≠ lb → Both w st lr li db lb n1 ds1 n2 ds2 rest pre
def JP (w : World) (st lr li db lb : Addr) (rest : List (Addr × Obj)) (n1 : Nat) (ds1 : List Dat) (n2 : Nat) (ds2 : List Dat) (R : List (Addr × Obj) → Value → Prop) (r : Value) (post : List (Addr × Obj)) : Prop := ∃ rest', (∀ q ∈ rest, q ∈ rest') ∧ Both w st lr li db lb n1 ds1 n2 ds2 rest' post ∧ R rest' r
section
variable {w : World} {st lr li db lb : Addr} {n1 n1' n2 n2' : Nat} {ds1 ds1' ds2 ds2' : List Dat} {rest pre : List (Addr × Obj)} {f : Addr} {args : List Value} {dd uu : Nat} {R : List (Addr × Obj) → Value → Prop}
theorem Both.sub : Both w st lr li db lb n1 ds1 n2 ds2 rest pre → ∀ q ∈ rest, q ∈ pre
  | .mk h _ _ _ _ _ _ _ _ _ _ _ _ _ _ _ => fun q hq => h q (.tail _ (.tail _ (.tail _ (.tail _ hq))))
theorem Both.push {t : Addr × Obj} (hl : ∀ p ∈ pre, p.1 < t.1) : Both w st lr li db lb n1 ds1 n2 ds2 rest pre → Both w st lr li db lb n1 ds1 n2 ds2 (t :: rest) (t :: pre)
  | .mk h a b c d e f1 f2 f3 f4 g1 g2 g3 g4 g5 g6 => by
    have up : ∀ p ∈ rest, p ∈ t :: rest := fun _ x => .tail _ x
    exact .mk (List.forall_mem_cons.mpr ⟨.tail _ (h _ (.head _)), List.forall_mem_cons.mpr ⟨.tail _ (h _ (.tail _ (.head _))), List.forall_mem_cons.mpr ⟨.tail _ (h _ (.tail _ (.tail _ (.head _)))), List.forall_mem_cons.mpr ⟨.tail _ (h _ (.tail _ (.tail _ (.tail _ (.head _))))), List.forall_mem_cons.mpr ⟨.head _, fun q hq => .tail _ (h q (.tail _ (.tail _ (.tail _ (.tail _ hq)))))⟩⟩⟩⟩⟩)
      a (b.up up) c (d.up up) (e.mono up) (List.forall_mem_cons.mpr ⟨Nat.ne_of_gt (hl _ (h _ (.head _))), f1⟩) (List.forall_mem_cons.mpr ⟨Nat.ne_of_gt (hl _ (h _ (.tail _ (.head _)))), f2⟩) (List.forall_mem_cons.mpr ⟨Nat.ne_of_gt (hl _ (h _ (.tail _ (.tail _ (.head _))))), f3⟩) (List.forall_mem_cons.mpr ⟨Nat.ne_of_gt (hl _ (h _ (.tail _ (.tail _ (.tail _ (.head _)))))), f4⟩) g1 g2 g3 g4 g5 g6
theorem tup_di : Value.type "tuple" ≠ .type "dict" := by decide
theorem joint_L (hR : ∀ led led' r, (∀ a vs, (a, tupO vs) ∈ led → (a, tupO vs) ∈ led') → R led r → R led' r) (J : Both w st lr li db lb n1 ds1 n2 ds2 rest pre)
    (C : ∀ restL, (∀ q ∈ rest, q ∈ restL) → Lv lr li n1 ds1 restL pre → Runs w f args pre dd uu (fun r post => ∃ rest', (∀ p ∈ restL, p ∈ rest') ∧ Lv lr li n1' ds1' rest' post ∧ R rest' r)) :
    Runs w f args pre dd uu (JP w st lr li db lb rest n1' ds1' n2 ds2 R) := by
  obtain ⟨h, a, b, c, d, e, f1, f2, f3, f4, g1, g2, g3, g4, g5, g6⟩ := J
  rename_i regs rows rowsB kr kl kb odb t
  have up : ∀ q ∈ rest, q ∈ (db, odb) :: (lb, listOf rowsB.toArray kb) :: rest := fun q hq => .tail _ (.tail _ hq)
  refine (C ((db, odb) :: (lb, listOf rowsB.toArray kb) :: rest) up (.mk h a (b.up up) (List.forall_mem_cons.mpr ⟨Ne.symm g3, List.forall_mem_cons.mpr ⟨Ne.symm g4, f1⟩⟩) (List.forall_mem_cons.mpr ⟨Ne.symm g5, List.forall_mem_cons.mpr ⟨Ne.symm g6, f2⟩⟩) g1)).monoN ?_
  rintro r post h₀ h' L N ⟨rest', s1, V, hr⟩
  have Vs := V.sub
  obtain ⟨v1, v2, v3, v4, v5, v6⟩ := V
  have m1 := s1 _ (.head _)
  have m2 := s1 _ (.tail _ (.head _))
  have ht : ∀ a vs, (a, tupO vs) ∈ rest' → (a, tupO vs) ∈ offI db (offI lb rest') := fun a vs hm => offI_mem.mpr ⟨offI_mem.mpr ⟨hm, news_ne N (Vs _ hm) (Vs _ m2) tup_li⟩, news_ne N (Vs _ hm) (Vs _ m1) (by rw [c.cls]; exact tup_di)⟩
  have hu : ∀ q ∈ rest, q ∈ offI db (offI lb rest') := fun q hq => offI_mem.mpr ⟨offI_mem.mpr ⟨s1 q (up q hq), f4 q hq⟩, f3 q hq⟩
  have hd : ∀ q ∈ offI db (offI lb rest'), q ∈ rest' := fun q hq => (offI_mem.mp (offI_mem.mp hq).1).1
  refine ⟨offI db (offI lb rest'), hu, .mk (List.forall_mem_cons.mpr ⟨v1 _ (.head _), List.forall_mem_cons.mpr ⟨v1 _ (.tail _ (.head _)), List.forall_mem_cons.mpr ⟨Vs _ m1, List.forall_mem_cons.mpr ⟨Vs _ m2, fun q hq => Vs q (hd q hq)⟩⟩⟩⟩) v2 (v3.upT ht) c (d.up hu) (e.mono hu) (fun q hq => v4 q (hd q hq)) (fun q hq => v5 q (hd q hq)) (fun q hq => (offI_mem.mp hq).2) (fun q hq => (offI_mem.mp (offI_mem.mp hq).1).2) g1 g2 g3 g4 g5 g6, hR _ _ _ ht hr⟩
theorem joint_B (hR : ∀ led led' r, (∀ a vs, (a, tupO vs) ∈ led → (a, tupO vs) ∈ led') → R led r → R led' r) (J : Both w st lr li db lb n1 ds1 n2 ds2 rest pre)
    (C : ∀ restL, (∀ q ∈ rest, q ∈ restL) → BLv w db lb n2 ds2 restL pre → Runs w f args pre dd uu (fun r post => ∃ rest', (∀ p ∈ restL, p ∈ rest') ∧ BLv w db lb n2' ds2' rest' post ∧ R rest' r)) :
    Runs w f args pre dd uu (JP w st lr li db lb rest n1 ds1 n2' ds2' R) := by
  obtain ⟨h, a, b, c, d, e, f1, f2, f3, f4, g1, g2, g3, g4, g5, g6⟩ := J
  rename_i regs rows rowsB kr kl kb odb t
  have up : ∀ q ∈ rest, q ∈ (lr, listOf regs.toArray kr) :: (li, listOf rows.toArray kl) :: rest := fun q hq => .tail _ (.tail _ hq)
  refine (C ((lr, listOf regs.toArray kr) :: (li, listOf rows.toArray kl) :: rest) up (.mk (List.forall_mem_cons.mpr ⟨h _ (.tail _ (.tail _ (.head _))), List.forall_mem_cons.mpr ⟨h _ (.tail _ (.tail _ (.tail _ (.head _)))), List.forall_mem_cons.mpr ⟨h _ (.head _), List.forall_mem_cons.mpr ⟨h _ (.tail _ (.head _)), fun q hq => h q (.tail _ (.tail _ (.tail _ (.tail _ hq))))⟩⟩⟩⟩) c (d.up up) (List.forall_mem_cons.mpr ⟨g3, List.forall_mem_cons.mpr ⟨g5, f3⟩⟩) (List.forall_mem_cons.mpr ⟨g4, List.forall_mem_cons.mpr ⟨g6, f4⟩⟩) g2)).monoN ?_
  rintro r post h₀ h' L N ⟨rest', s1, V, hr⟩
  have Vs := V.sub
  obtain ⟨v1, v2, v3, v4, v5, v6⟩ := V
  have m1 := s1 _ (.head _)
  have m2 := s1 _ (.tail _ (.head _))
  have ht : ∀ a vs, (a, tupO vs) ∈ rest' → (a, tupO vs) ∈ offI lr (offI li rest') := fun a vs hm => offI_mem.mpr ⟨offI_mem.mpr ⟨hm, news_ne N (Vs _ hm) (Vs _ m2) tup_li⟩, news_ne N (Vs _ hm) (Vs _ m1) tup_li⟩
  have hu : ∀ q ∈ rest, q ∈ offI lr (offI li rest') := fun q hq => offI_mem.mpr ⟨offI_mem.mpr ⟨s1 q (up q hq), f2 q hq⟩, f1 q hq⟩
  have hd : ∀ q ∈ offI lr (offI li rest'), q ∈ rest' := fun q hq => (offI_mem.mp (offI_mem.mp hq).1).1
  refine ⟨offI lr (offI li rest'), hu, .mk (List.forall_mem_cons.mpr ⟨Vs _ m1, List.forall_mem_cons.mpr ⟨Vs _ m2, List.forall_mem_cons.mpr ⟨v1 _ (.head _), List.forall_mem_cons.mpr ⟨v1 _ (.tail _ (.head _)), fun q hq => Vs q (hd q hq)⟩⟩⟩⟩) a (b.up hu) v2 (v3.upT ht) (e.mono hu) (fun q hq => (offI_mem.mp hq).2) (fun q hq => (offI_mem.mp (offI_mem.mp hq).1).2) (fun q hq => v4 q (hd q hq)) (fun q hq => v5 q (hd q hq)) g1 g2 g3 g4 g5 g6, hR _ _ _ ht hr⟩
abbrev RT (d : Dat) : List (Addr × Obj) → Value → Prop := fun led r => TIn (TL ++ led) r d
abbrev RW (y : Way) : List (Addr × Obj) → Value → Prop := fun led r => WayIn led y r
theorem rt_up (d : Dat) : ∀ led led' r, (∀ a vs, (a, tupO vs) ∈ led → (a, tupO vs) ∈ led') → RT d led r → RT d led' r := fun _ _ _ hs h => h.upT hs
theorem rw_up (y : Way) : ∀ led led' r, (∀ a vs, (a, tupO vs) ∈ led → (a, tupO vs) ∈ led') → RW y led r → RW y led' r := fun _ _ _ hs h => h.upT hs
theorem Both.S : Both w st lr li db lb n1 ds1 n2 ds2 rest pre → SIn w rest st lr li
  | .mk _ _ _ _ _ e _ _ _ _ _ _ _ _ _ _ => e
variable {v : Value} {p : Pl} {y : Way}
theorem j_load (J : Both w st lr li db lb n1 ds1 n2 ds2 rest pre) (P : PlIn rest v p) (hz : n1 + 10 * p.size ≤ 600) (hy : ds1.length + 10 * p.size ≤ 600) :
    Runs w 70 [.ref st, v] pre (60 + 20 * p.size) (600 + 200 * p.size) (JP w st lr li db lb rest (n1 + (p.load n1).rows.length) (ds1 ++ (p.load n1).rows) n2 ds2 (RT (p.load n1).out)) :=
  joint_L (rt_up _) J fun _ up V => ld_all J.S P _ _ _ _ up V hz hy
theorem j_bload (J : Both w st lr li db lb n1 ds1 n2 ds2 rest pre) (P : PlIn rest v p) (hz : n2 + 10 * p.size ≤ 600) (hy : ds2.length + 10 * p.size ≤ 600) :
    Runs w 521 [.ref db, v] pre (60 + 20 * p.size) (600 + 200 * p.size) (JP w st lr li db lb rest n1 ds1 (n2 + (p.load n2).rows.length) (ds2 ++ (p.load n2).rows) (RT (p.load n2).out)) :=
  joint_B (rt_up _) J fun _ up V => bl_all P _ _ _ _ up V hz hy
theorem j_way (J : Both w st lr li db lb n1 ds1 n2 ds2 rest pre) (P : PlIn rest v p) (hz : n1 + 4 * p.size ≤ 700) (hy : ds1.length + 4 * p.size ≤ 700) :
    Runs w 56 [.ref st, v] pre (30 + 10 * p.size) (300 + 100 * p.size) (JP w st lr li db lb rest (n1 + (p.way n1).rows.length) (ds1 ++ (p.way n1).rows) n2 ds2 (RW (p.way n1))) :=
  joint_L (rw_up _) J fun _ up V => wy_all J.S P _ _ _ _ up V hz hy
theorem j_bway (J : Both w st lr li db lb n1 ds1 n2 ds2 rest pre) (P : PlIn rest v p) (hk : p.kept = true) (hz : n2 + 4 * p.size ≤ 700) (hy : ds2.length + 4 * p.size ≤ 700) :
    Runs w 507 [.ref db, v] pre (30 + 10 * p.size) (300 + 100 * p.size) (JP w st lr li db lb rest n1 ds1 (n2 + (p.way n2).rows.length) (ds2 ++ (p.way n2).rows) (RW (p.way n2))) :=
  joint_B (rw_up _) J fun _ up V => bw_all P hk _ _ _ _ up V hz hy
theorem j_along (J : Both w st lr li db lb n1 ds1 n2 ds2 rest pre) (W : WayIn rest y v) (hz : n1 + y.steps.length ≤ 750) (hy : ds1.length + y.steps.length ≤ 750) :
    Runs w 63 [.ref st, v] pre 20 120 (JP w st lr li db lb rest (n1 + y.steps.length) (ds1 ++ alongRows y.begin n1 y.steps) n2 ds2 (RT (along y.begin n1 y.steps))) :=
  joint_L (rt_up _) J fun _ up V => c_along (J.S.mono up) V (W.mono up) hz hy
theorem j_bptr (J : Both w st lr li db lb n1 ds1 n2 ds2 rest pre) (W : WayIn rest y v) (hy : ds2.length + y.steps.length ≤ 750) :
    Runs w 514 [.ref db, v] pre 20 120 (JP w st lr li db lb rest n1 ds1 (n2 + y.steps.length) (ds2 ++ alongRows y.begin n2 y.steps) (RT (along y.begin n2 y.steps))) :=
  joint_B (rt_up _) J fun _ up V => c_bpointer V (W.mono up) hy
end
theorem ok_s {x : String} {n : Nat} (h : PyData.strOk (Str.ofString x) = true) : okD (n + 1) (sd x) := ⟨by simpa [kqdP, PyData.canLay0] using h, by simp [kqdP, PyData.depth]⟩
theorem s_reg : PyData.strOk (Str.ofString "reg") = true := by decide +kernel
theorem s_const : PyData.strOk (Str.ofString "const") = true := by decide +kernel
theorem s_ptr : PyData.strOk (Str.ofString "ptr") = true := by decide +kernel
theorem s_mg : PyData.strOk (Str.ofString "m.g") = true := by decide +kernel
theorem s_load : PyData.strOk (Str.ofString "load") = true := by decide +kernel
theorem s_part : PyData.strOk (Str.ofString "part") = true := by decide +kernel
theorem s_elem : PyData.strOk (Str.ofString "elem") = true := by decide +kernel
theorem s_field : PyData.strOk (Str.ofString "field") = true := by decide +kernel
theorem s_fieldptr : PyData.strOk (Str.ofString "fieldptr") = true := by decide +kernel
theorem s_elemptr : PyData.strOk (Str.ofString "elemptr") = true := by decide +kernel
theorem s_move : PyData.strOk (Str.ofString "move") = true := by decide +kernel
theorem s_int : PyData.strOk (Str.ofString "int") = true := by decide +kernel
theorem s_word (s : Step) : PyData.strOk (Str.ofString s.word) = true := by
  obtain ⟨b, _, _⟩ := s
  cases b
  · exact s_elem
  · exact s_field
theorem s_wptr (s : Step) : PyData.strOk (Str.ofString s.wptr) = true := by
  obtain ⟨b, _, _⟩ := s
  cases b
  · exact s_elemptr
  · exact s_fieldptr
theorem ok_int (i : Int) (n : Nat) : okD (n + 1) (.int i) := ⟨by simp [kqdP, PyData.canLay0], by simp [kqdP, PyData.depth]⟩
theorem okAll_nil {n : Nat} : okAll n [] := fun _ h => nomatch h
theorem okAll_cons {n : Nat} {d : Dat} {ds : List Dat} (a : okD n d) (b : okAll n ds) : okAll n (d :: ds) := List.forall_mem_cons.mpr ⟨a, b⟩
theorem okAll_app {n : Nat} {a b : List Dat} (h : okAll n a) (k : okAll n b) : okAll n (a ++ b) := fun d hd => (List.mem_append.mp hd).elim (h d) (k d)
theorem okAll_mono {n k : Nat} {ds : List Dat} (h : okAll n ds) (hk : n ≤ k) : okAll k ds := fun d hd => okD_mono (h d hd) hk
theorem ok_reg (k : Nat) : okD 3 (reg k) := okD_tuple (n := 2) (okAll_cons (ok_s s_reg) (okAll_cons (ok_int _ _) okAll_nil))
theorem ok_tInt : okD 3 tInt := okD_tuple (n := 2) (okAll_cons (ok_s s_int) (okAll_cons (ok_s s_int) okAll_nil))
theorem ok_cst (k : Int) : okD 4 (cstD k) := okD_tuple (okAll_cons (ok_s s_const) (okAll_cons ok_tInt (okAll_cons (ok_int _ _) okAll_nil)))
theorem ok_row1 {w : String} {n k : Nat} {x : Dat} (hw : PyData.strOk (Str.ofString w) = true) (h : okD (k + 1) x) : okD (k + 2) (row1 w n x) := okD_tuple (okAll_cons (ok_s hw) (okAll_cons (ok_int _ _) (okAll_cons h okAll_nil)))
theorem ok_row2 {w : String} {n k : Nat} {x y : Dat} (hw : PyData.strOk (Str.ofString w) = true) (h : okD (k + 1) x) (h' : okD (k + 1) y) : okD (k + 2) (row2 w n x y) := okD_tuple (okAll_cons (ok_s hw) (okAll_cons (ok_int _ _) (okAll_cons h (okAll_cons h' okAll_nil))))
theorem ok_keep (n : Nat) (k : Num) : okD 6 (k.keep n) := by
  cases k with
  | loc => exact okD_mono (ok_reg _) (by decide)
  | cst j => exact okD_mono (ok_cst _) (by decide)
theorem ok_val (k : Num) : okD 6 k.val := by
  cases k with
  | loc => exact okD_mono (ok_reg _) (by decide)
  | cst j => exact okD_mono (ok_cst _) (by decide)
theorem ok_nrows (n : Nat) (k : Num) : okAll 12 (k.rows n) := by
  cases k with
  | loc => exact okAll_cons (okD_mono (ok_row1 (k := 2) s_move (ok_reg _)) (by decide)) okAll_nil
  | cst j => exact okAll_nil
theorem ok_move (n k : Nat) : okD 12 (row1 "move" n (reg k)) := okD_mono (ok_row1 (k := 2) s_move (ok_reg _)) (by decide)
theorem ok_way : ∀ (p : Pl) (n : Nat), okD 9 (p.way n).begin ∧ (∀ s ∈ (p.way n).steps, okD 6 s.told) ∧ okAll 12 (p.way n).rows
  | .v0 _, n => ⟨okD_mono (ok_reg _) (by decide), fun _ h => (nomatch h), okAll_nil⟩
  | .w4 _, n => ⟨okD_mono (ok_reg _) (by decide), fun _ h => (nomatch h), okAll_nil⟩
  | .glob τ, n => ⟨okD_mono (okD_tuple (n := 7) (okAll_cons (ok_s s_const) (okAll_cons (okD_tuple (n := 6) (okAll_cons (ok_s s_ptr) (okAll_cons (okTy τ) okAll_nil))) (okAll_cons (okD_mono (okD_tuple (n := 2) (okAll_cons (ok_s s_ptr) (okAll_cons (ok_s s_mg) (okAll_cons (okD_mono (okD_tuple (n := 1) okAll_nil) (by decide)) okAll_nil)))) (by decide)) okAll_nil)))) (by decide), fun _ h => (nomatch h), okAll_nil⟩
  | .dc τ, n => ⟨okD_mono (okD_tuple (n := 7) (okAll_cons (ok_s s_const) (okAll_cons (okD_mono (okD_tuple (n := 3) (okAll_cons (ok_s s_ptr) (okAll_cons ok_tInt okAll_nil))) (by decide)) (okAll_cons (okD_mono (okD_tuple (n := 2) (okAll_cons (ok_s s_ptr) (okAll_cons (ok_int _ _) (okAll_cons (okD_mono (okD_tuple (n := 1) okAll_nil) (by decide)) okAll_nil)))) (by decide)) okAll_nil)))) (by decide), fun _ h => (nomatch h), okAll_nil⟩
  | .dl _, n => ⟨okD_mono (ok_reg _) (by decide), fun _ h => (nomatch h), okAll_cons (ok_move _ _) okAll_nil⟩
  | .sl _ k, n => ⟨okD_mono (ok_reg _) (by decide), List.forall_mem_cons.mpr ⟨ok_keep _ _, fun _ h => (nomatch h)⟩, okAll_cons (ok_move _ _) (ok_nrows _ _)⟩
  | .fld _ p f, n => by
    obtain ⟨a, b, c⟩ := ok_way p n
    refine ⟨a, fun s hs => ?_, c⟩
    rcases List.mem_append.mp hs with h | h
    · exact b s h
    · rw [List.mem_singleton.mp h]; exact ok_int _ _
  | .idx _ p k, n => by
    obtain ⟨a, b, c⟩ := ok_way p n
    refine ⟨a, fun s hs => ?_, okAll_app c (ok_nrows _ _)⟩
    rcases List.mem_append.mp hs with h | h
    · exact b s h
    · rw [List.mem_singleton.mp h]; exact ok_keep _ _
theorem ok_along : ∀ (ss : List Step) (p : Dat) (n : Nat), okD 9 p → (∀ s ∈ ss, okD 6 s.told) → okD 9 (along p n ss) ∧ okAll 12 (alongRows p n ss)
  | [], p, n, h, _ => ⟨h, okAll_nil⟩
  | s :: ss, p, n, h, k => by
    obtain ⟨a, b⟩ := ok_along ss (reg n) (n + 1) (okD_mono (ok_reg _) (by decide)) fun s hs => k s (.tail _ hs)
    exact ⟨a, okAll_cons (okD_mono (ok_row2 (k := 8) (s_wptr s) h (okD_mono (k s (.head _)) (by decide))) (by decide)) b⟩
theorem ok_steps (ss : List Step) (h : ∀ s ∈ ss, okD 6 s.told) : okAll 7 (ss.map Step.dat) := fun d hd => by
  obtain ⟨s, hs, rfl⟩ := List.mem_map.mp hd
  exact okD_tuple (n := 6) (okAll_cons (ok_s (s_word s)) (okAll_cons (h s hs) (okAll_cons (okTy _) okAll_nil)))
theorem ok_wayD (p : Pl) (n : Nat) : okD 12 (p.way n).dat := by
  obtain ⟨a, b, _⟩ := ok_way p n
  exact okD_mono (okD_tuple (n := 9) (okAll_cons a (okAll_cons (okD_mono (okD_tuple (ok_steps _ b)) (by decide)) okAll_nil))) (by decide)
theorem ok_loadK (p : Pl) (n : Nat) : okD 9 (p.loadK n).out ∧ okAll 12 (p.loadK n).rows := by
  obtain ⟨a, b, c⟩ := ok_way p n
  obtain ⟨d, e⟩ := ok_along (p.way n).steps (p.way n).begin (n + (p.way n).rows.length) a b
  exact ⟨okD_mono (ok_reg _) (by decide), okAll_app (okAll_app c e) (okAll_cons (okD_mono (ok_row1 (k := 8) s_load d) (by decide)) okAll_nil)⟩
theorem ok_load : ∀ (p : Pl) (n : Nat), okD 9 (p.load n).out ∧ okAll 12 (p.load n).rows
  | .v0 _, n => ok_loadK _ n
  | .w4 _, n => ⟨okD_mono (ok_reg _) (by decide), okAll_nil⟩
  | .glob _, n => ok_loadK _ n
  | .dc _, n => ok_loadK _ n
  | .dl _, n => ok_loadK _ n
  | .sl _ _, n => ok_loadK _ n
  | .fld τ p f, n => by
    obtain ⟨a, b⟩ := ok_load p n
    unfold Pl.load
    split
    · exact ok_loadK _ n
    · exact ⟨okD_mono (ok_reg _) (by decide), okAll_app b (okAll_cons (okD_mono (ok_row2 (k := 8) s_part a (ok_int _ _)) (by decide)) okAll_nil)⟩
  | .idx τ p k, n => by
    obtain ⟨a, b⟩ := ok_load p n
    unfold Pl.load
    split
    · exact ok_loadK _ n
    · exact ⟨okD_mono (ok_reg _) (by decide), okAll_app b (okAll_cons (okD_mono (ok_row2 (k := 8) s_elem a (okD_mono (ok_val k) (by decide))) (by decide)) okAll_nil)⟩
def CutA : Prop := True
def CutB : Prop := True
section
variable {prog : Program} {w : World} {M : Model} {A : Around} {E : Value → Shared → Prop} {s : Shared} {h₀ : Heap} {L : Addr} {m : Str → Option Value} {news : List (Addr × Obj)}
def CV (b : Bool) (s : Shared) (v : Value) (s' : Shared) : Prop := v = .bool b ∧ ∃ tk, s' = { s with toks := tk }
def CF (h₀ : Heap) (L : Addr) (m : Str → Option Value) (news : List (Addr × Obj)) (s : Shared) (b : Bool) (s' : Shared) : Prop := b = false ∧ ∃ h' tk, s' = { s with heap := h', toks := tk } ∧ Fr h₀ L h' m ∧ News h₀ L h' news
theorem cv_mk {b : Bool} {tk : Nat} : CV b s (.bool b) { s with toks := tk } := ⟨rfl, _, rfl⟩
theorem cf_mk {h' : Heap} {tk : Nat} {news' : List (Addr × Obj)} (F : Fr h₀ L h' m) (N : News h₀ L h' news') (hs : ∀ q ∈ news, q ∈ news') : CF h₀ L m news s false { s with heap := h', toks := tk } := ⟨rfl, _, _, rfl, F, News.sub N hs⟩
theorem cut_val {T : Sem Value} {Q : Value → Shared → Prop} {b : Bool} (h1 : wpAny M A T (fun v s' => CV b s v s') E s) (h2 : ∀ tk, Q (.bool b) { s with toks := tk }) : wpAny M A T Q E s :=
  wpAny_mono h1 (fun v s' ⟨e, tk, e2⟩ => by subst e; subst e2; exact h2 tk) fun _ _ e => e
theorem cut_false {T : Sem Bool} {Q : Bool → Shared → Prop} (_ : Fr h₀ L s.heap m) (_ : News h₀ L s.heap news) (h1 : wpAny M A T (fun b s' => CF h₀ L m news s b s') E s) (h2 : ∀ h' tk, Fr h₀ L h' m → News h₀ L h' news → Q false { s with heap := h', toks := tk }) : wpAny M A T Q E s :=
  wpAny_mono h1 (fun b s' ⟨e, h', tk, e2, F, N⟩ => by subst e; subst e2; exact h2 h' tk F N) fun _ _ e => e
variable {P : Params} {Q : Value → Shared → Prop} {r1 r2 : List (Addr × Obj)} {a b : Value} {p : Pl} {n k : Nat}
theorem ne_load (F : Fr h₀ L s.heap m) (X : (hd.heap_39 P).In h₀) (N : News h₀ L s.heap news) (T1 : TIn (TL ++ r1) a (p.load n).out) (T2 : TIn (TL ++ r2) b (p.load n).out) (u1 : ∀ q ∈ r1, q ∈ news) (u2 : ∀ q ∈ r2, q ∈ news) (hu : A.units + 64 < cLine) (h : Q (.bool false) s) : wpAny (model prog w) A (compareOp .NotEq a b) Q E s :=
  cmp_ne (r := false) F X N (T1.up u1) (T2.up u2) (ok_load p n).1 (ok_load p n).1 (by decide) (by decide) (eqv_same _) hu h
theorem ne_way (F : Fr h₀ L s.heap m) (X : (hd.heap_39 P).In h₀) (N : News h₀ L s.heap news) (T1 : WayIn r1 (p.way n) a) (T2 : WayIn r2 (p.way n) b) (u1 : ∀ q ∈ r1, q ∈ news) (u2 : ∀ q ∈ r2, q ∈ news) (hu : A.units + 64 < cLine) (h : Q (.bool false) s) : wpAny (model prog w) A (compareOp .NotEq a b) Q E s :=
  cmp_ne (r := false) F X N (T1.tin.up u1) (T2.tin.up u2) (ok_wayD p n) (ok_wayD p n) (by decide) (by decide) (eqv_same _) hu h
theorem ne_along (F : Fr h₀ L s.heap m) (X : (hd.heap_39 P).In h₀) (N : News h₀ L s.heap news) (T1 : TIn (TL ++ r1) a (along (p.way n).begin k (p.way n).steps)) (T2 : TIn (TL ++ r2) b (along (p.way n).begin k (p.way n).steps)) (u1 : ∀ q ∈ r1, q ∈ news) (u2 : ∀ q ∈ r2, q ∈ news) (hu : A.units + 64 < cLine) (h : Q (.bool false) s) : wpAny (model prog w) A (compareOp .NotEq a b) Q E s :=
  cmp_ne (r := false) F X N (T1.up u1) (T2.up u2) (ok_along _ _ k (ok_way p n).1 (ok_way p n).2.1).1 (ok_along _ _ k (ok_way p n).1 (ok_way p n).2.1).1 (by decide) (by decide) (eqv_same _) hu h
theorem ok_alongR (p : Pl) (n k : Nat) : okAll 12 ((p.way n).rows ++ alongRows (p.way n).begin k (p.way n).steps) := okAll_app (ok_way p n).2.2 (ok_along _ _ k (ok_way p n).1 (ok_way p n).2.1).2
end
theorem both_start {w : World} {st lr li db lb : Addr} {rest post LED : List (Addr × Obj)} {odb : Obj} {t : Tok} {kb : Nat} (S : SIn w rest st lr li) (V : Lv lr li 5 [] rest post) (i : IsBook w odb lb 5 t) (m1 : (db, odb) ∈ LED) (m2 : (lb, listOf #[] kb) ∈ LED) (hs : ∀ q ∈ post, q ∈ LED) (a1 : ∀ p ∈ post, p.1 < db) (a2 : AllLt lb post) (ne : @Ne Nat db lb) : Both w st lr li db lb 5 [] 5 [] rest LED := by
  have Vs := V.sub
  obtain ⟨v1, v2, v3, v4, v5, v6⟩ := V
  have b1 : ∀ q ∈ post, q.1 ≠ db := fun q hq => Nat.ne_of_lt (a1 q hq)
  have b2 : ∀ q ∈ post, q.1 ≠ lb := fun q hq => Nat.ne_of_lt (allLt_mem a2 q hq)
  exact .mk (rowsB := []) (List.forall_mem_cons.mpr ⟨hs _ (v1 _ (.head _)), List.forall_mem_cons.mpr ⟨hs _ (v1 _ (.tail _ (.head _))), List.forall_mem_cons.mpr ⟨m1, List.forall_mem_cons.mpr ⟨m2, fun q hq => hs q (Vs q hq)⟩⟩⟩⟩) v2 v3 i .nil S v4 v5 (fun q hq => b1 q (Vs q hq)) (fun q hq => b2 q (Vs q hq)) v6 ne (b1 _ (v1 _ (.head _))) (b2 _ (v1 _ (.head _))) (b1 _ (v1 _ (.tail _ (.head _)))) (b2 _ (v1 _ (.tail _ (.head _))))
theorem kind_of {pre : List (Addr × Obj)} {v : Value} {p : Pl} (P : PlIn pre v p) : ∃ a te tt ty xs, v = .ref a ∧ (a, tupO (.str te tt :: ty :: xs)) ∈ pre ∧ (te ≠ Str.ofString "index" ∨
    (te = Str.ofString "index" ∧ ∃ z b bt btt bty bxs k ds0 more, xs = z :: .ref b :: more ∧ (b, tupO (.str bt btt :: .ref bty :: bxs)) ∈ pre ∧ TIn (TL ++ pre) (.ref bty) (.tuple (sd k :: ds0)) ∧ (k = "slice" ∨ k = "array"))) := by
  induction P with
  | v0 h t => exact ⟨_, _, _, _, _, rfl, h, .inl (by decide)⟩
  | w4 h t => exact ⟨_, _, _, _, _, rfl, h, .inl (by decide)⟩
  | glob h t => exact ⟨_, _, _, _, _, rfl, h, .inl (by decide)⟩
  | dc h t => exact ⟨_, _, _, _, _, rfl, h, .inl (by decide)⟩
  | dl h t => exact ⟨_, _, _, _, _, rfl, h, .inl (by decide)⟩
  | fld h t => exact ⟨_, _, _, _, _, rfl, h, .inl (by decide)⟩
  | sl h t b => exact ⟨_, _, _, _, _, rfl, h, .inr ⟨rfl, _, _, _, _, _, _, "slice", _, _, rfl, b, t430, .inl rfl⟩⟩
  | idx h t r e =>
    obtain ⟨a, te, tt, ty, xs, rfl, hm, ht⟩ := r.head
    obtain ⟨ds0, hT⟩ := arr_tin ht e
    exact ⟨_, _, _, _, _, rfl, h, .inr ⟨rfl, _, _, _, _, _, _, "array", ds0, _, rfl, hm, hT, .inr rfl⟩⟩
theorem w_C36_0 : True := by
  w_top off
  k_with_none
  k_with "k_all" => (assumption)
  k_with "eval Dict" => (k_here; k_dflt (first
  | (refine' kdn_str ?q ?F ?N ?b ?a ?l ?e ?n ?_; (case q => rfl); (case F => k_asm); (case N => first | k_asm | exact News.nil); (case b => exact Top.nolimit (by k_asm)); (case a => rfl); (case l => rfl); (case e => exact List.cons_ne_nil _ _); (case n => exact Nat.le_of_ble_eq_true rfl))
  | (refine' kdn_int ?q ?F ?N ?b ?a ?l ?e ?n ?_; (case q => rfl); (case F => k_asm); (case N => first | k_asm | exact News.nil); (case b => exact Top.nolimit (by k_asm)); (case a => rfl); (case l => rfl); (case e => exact List.cons_ne_nil _ _); (case n => exact Nat.le_of_ble_eq_true rfl))); intro d' h' o' F' N' l1 lo' hd'; (try k_lt l1))
  k_with "eval Dict nil nil" => (k_here; k_dflt (refine' newDict_K ?k1 ?k2 (TopRead.nolimit (by k_asm)) ?_; (case k1 => k_asm); (case k2 => k_asm); k_whole); intro d' h' o' F' N' l1 lo' hs' fs' hi' fi'; (try k_lt l1); (try k_sweep))
  k_with "ktr_room" => (refine room_of ?_; (try simp +zetaDelta only [depth_under_make, depth_under_kw, depth_in1, depth_deeper]); (try dsimp only [ktrTop]); (first | exact rl1 (by assumption) (by exact rfl) | exact rl2 (by assumption) (by exact rfl) | exact rl3 (by assumption) (by exact rfl) | omega))
  k_with "ktr_enter" => (refine' code_def ?k1 ?k2 ?k3 ?k4 ?k5 ?kA ?kF ?kK ?k6 ?k7 ?k8 ?k9 ?kB ?_ ?c2 ?c3 ?c4 ?c5; (case kA => exact rfl); (case kF => exact rfl); (case kK => first | exact rfl | assumption); (case k1 => k_asm); (case k2 => k_asm); (case k3 => k_asm); (case k4 => k_asm); (case k5 => k_asm); (case k6 => k_is); (case k7 => k_is); (case k8 => ktr_room); (case k9 => first | exact BindsTo.of_eq rfl | exact binds_K (by k_in) rfl (by k_is) rfl rfl rfl); (case c5 => decide); (case kB => exact locs rfl); (case c2 => exact rfl); (case c3 => exact rfl); (case c4 => exact rfl); k_whole; intro g' L' h' FG' F' N' B' X' T'; (try dsimp only); (try k_fold); (try (refine let_enter ?_; intro M1 A1)))
  k_with "call ref" => (k_here; k_dflt (first
  | (refine wpAny_call ?_; ktr_enter)
  | (refine' call_cls0 ?k1 ?k2 ?k3 ?k4 ?k5 ?_; (case k1 => k_asm); (case k2 => k_asm); (case k3 => k_asm); (case k4 => k_is); (case k5 => k_is); k_whole; intro x' d' h' F' N' l1 l2; (try k_lt l1); (try k_lt2 l2); (try k_sweep))
  | (refine' call_cls ?k1 ?k2 ?k3 ?k4 ?k5 ?k6 ?_; (case k1 => k_asm); (case k2 => k_asm); (case k3 => k_asm); (case k4 => k_is); (case k5 => k_is); (case k6 => k_is); k_whole; intro x' d' h' F' N' l1 l2; (try k_lt l1); (try k_lt2 l2); (try k_sweep); ktr_enter)
  | (refine' call_meth ?k1 ?k2 ?_; (case k1 => k_asm); (case k2 => k_mem); k_whole; ktr_enter)))
  k_with "ktr_units" => ((try simp +zetaDelta only [units_in1, units_deeper, Around.mark_units, units_make]); (try dsimp only [ktrTop]); first | exact rl1 (by assumption) (by exact rfl) | exact rl2 (by assumption) (by exact rfl) | exact rl3 (by assumption) (by exact rfl) | omega | ((show _ < (9900 : Nat)); omega))
  k_with "call type:frozenset" => (k_here; k_dflt (refine' fz_call ?F ?N ?m ?d ?z ?_; (case F => k_asm); (case N => k_asm); (case m => k_mem); (case d => k_asm); (case z => k_asm)); intro D' h' tq' led' F' N' l1; (try k_lt l1))
  k_with "compareOp In int ref" => (k_here; k_dflt (refine' fz_in ?N ?m ?_; (case N => k_asm); (case m => k_mem)))
  k_with "call type:list" => (k_here; (with_reducible show wpAny _ _ (call (Value.type "list") [Value.ref _]) _ _ _); k_dflt (refine' list_copyK ?k1 ?k2 ?k3 ?_ ?z; (case k1 => k_asm); (case k2 => k_asm); (case k3 => exact News.isList (by k_asm) (by k_mem)); (case z => first | exact Nat.le_of_ble_eq_true rfl | omega); k_whole); intro D' c' h' F' N' l1; (try k_lt l1); (try k_sweep))
  k_with "k_mem" => (with_reducible kcf_m)
  k_with "k_get" => (with_reducible assumption)
  k_with "call builtin:len" => (k_here; (with_reducible show wpAny _ _ (call (Value.builtin "len") [Value.ref _]) _ _ _); k_dflt (refine' len_arr ?N ?m ?z ?_; (case N => k_asm); (case m => k_mem); (case z => (simp only [Array.size_push, List.size_toArray]; omega))))
  k_with "kcf_m" => (refine via (by assumption) ?_; kcf_m)
  k_with "subscriptTail Name Slice ref ref" => (k_here; (with_reducible show wpAny _ _ (subscriptTail _ _ (Value.ref _) (Value.ref _)) _ _ _); k_dflt (first
  | (refine' tup_head ?F ?N ?m ?h0 ?b ?e ?_ ?s ?t ?z; (case F => k_asm); (case N => k_asm); (case m => k_mem); (case h0 => decide); (case b => first | exact Nat.le_of_ble_eq_true rfl | (simp only [List.length_cons]; omega)); (case e => first | exact tk1 | exact dp1 | exact dp2 | exact rfl); (case s => with_unfolding_all rfl); (case t => kmk_pure); (case z => first | exact Nat.le_of_ble_eq_true rfl | (simp only [List.length_cons]; omega)))
  | (refine' tup_rest ?F ?N ?m ?h0 ?b ?e ?_ ?s ?t ?z; (case F => k_asm); (case N => k_asm); (case m => k_mem); (case h0 => decide); (case b => first | exact Nat.le_of_ble_eq_true rfl | (simp only [List.length_cons]; omega)); (case e => first | exact tk1 | exact dp1 | exact dp2 | exact rfl); (case s => with_unfolding_all rfl); (case t => kmk_pure); (case z => first | exact Nat.le_of_ble_eq_true rfl | (simp only [List.length_cons]; omega)))); intro D' h' F' N' l1; (try k_lt l1); (try k_sweep))
  k_with "subscriptTail" => (k_here; (with_reducible show wpAny _ _ (subscriptTail _ _ (Value.ref _) (Value.int _ _)) _ _ _); k_dflt (first
  | (refine' list_tailL ?N ?m ?a ?b ?x ?_ ?s; (case N => k_asm); (case m => k_mem); (case a => decide); (case b => decide); (case x => first | exact rfl | assumption); (case s => with_unfolding_all rfl))
  | (refine' dict_tail (knd := intKind _ _) ?N ?m ?d ?k ?v ?_ ?s; (case N => k_asm); (case m => k_mem); (case d => with_reducible assumption); (case k => exact intKind_is _ _ _ _); (case v => first | with_reducible assumption | exact rfl); (case s => with_unfolding_all rfl))))
  k_with "subscriptTail" => (k_here; (with_reducible show wpAny _ _ (subscriptTail _ _ (Value.ref _) (Value.str _ _)) _ _ _); k_dflt
  (refine' dict_tail (knd := strKind _ _) ?N ?m ?d ?k ?v ?_ ?s; (case N => k_asm); (case m => k_mem); (case d => with_reducible assumption); (case k => exact strKind_is _ _ _ _); (case v => exact rfl); (case s => with_unfolding_all rfl)))
  k_with "getItem ref str" => (k_here; k_dflt
  (refine' dict_get (knd := strKind _ _) ?N ?m ?d ?k ?v ?_; (case N => k_asm); (case m => k_mem); (case d => with_reducible assumption); (case k => exact strKind_is _ _ _ _); (case v => exact rfl)))
  k_with "compareOp In int ref" => (k_here; k_dflt (refine' fz_in' ?N ?m ?b ?_; (case N => k_asm); (case m => k_mem); (case b => first | assumption | exact rfl)))
  k_with "binaryOp Add ref ref" => (k_here; k_dflt (refine' tup_add ?F ?N ?a ?b ?v ?w ?z ?e ?_; (case F => k_asm); (case N => k_asm); (case a => k_mem); (case b => k_mem); (case v => first | exact List.cons_ne_nil _ _ | assumption); (case w => first | exact List.cons_ne_nil _ _ | assumption); (case z => first | exact Nat.le_of_ble_eq_true rfl | (simp only [List.length_cons, List.length_nil]; omega)); (case e => first | exact ap1 | exact ap2 | exact rfl)); intro D' h' F' N' l1; (try k_lt l1); (try k_sweep))
  k_with "newTuple" => (k_here; k_dflt (refine' kup_newTuple ?F ?N ?_ ?z; (case F => k_asm); (case N => k_asm); (case z => kmk_size)); intro D' h' F' N' l1; (try k_sweep))
  k_with "k_offL" => (first | omega | ((try simp only [List.length_append, List.length_cons, List.length_nil]); omega))
  k_with "subscriptTail" => (k_here; (with_reducible show wpAny _ _ (subscriptTail _ _ (Value.ref _) (Value.int 0 _)) _ _ _); k_dflt (refine' tin_sub0 ?F ?X ?N ?T ?_ ?s; (case F => k_asm); (case X => k_asm); (case N => k_asm); (case T => (refine TIn.up (by assumption) ?_; kat_tups)); (case s => with_unfolding_all rfl)); intro t0')
  k_with "subscriptTail" => (k_here; (with_reducible show wpAny _ _ (subscriptTail _ _ (Value.ref _) (Value.int _ _)) _ _ _); k_dflt (refine' tup_item ?N ?m ?a ?b ?x ?_ ?s; (case N => k_asm); (case m => k_mem); (case a => decide); (case b => decide); (case x => exact rfl); (case s => with_unfolding_all rfl)))
  k_with "compareOp Eq str str" => (k_here; k_dflt (refine' eq_str_f ?h ?_; (case h => with_reducible assumption)))
  k_with "compareOp NotEq str str" => (k_here; k_dflt (refine' ne_str_t ?h ?_; (case h => with_reducible assumption)))
  k_with "subscriptTail" => (k_here; (with_reducible show wpAny _ _ (subscriptTail _ _ (Value.ref _) (Value.str _ _)) _ _ _); k_dflt
  (refine' dict_tail (knd := strKind _ _) ?N ?m ?d ?k ?v ?_ ?s; (case N => k_asm); (case d => with_reducible assumption); (case m => k_mem); (case k => exact strKind_is _ _ _ _); (case v => exact rfl); (case s => with_unfolding_all rfl)))
  k_with "call ref" => (k_here; (with_reducible show wpAny _ _ (call (Value.ref 458) _) _ _ _); k_dflt (refine' runs_use (c_state _ _) ?B ?F ?X ?N ?T ?k ?d ?u ?_; (case B => k_asm); (case F => k_asm); (case X => k_asm); (case N => k_asm); (case T => k_asm); (case k => exact rfl); (case d => ((try simp +zetaDelta only [depth_under_make, depth_under_kw, depth_in1, depth_deeper]); (try dsimp only [ktrTop]); (first | exact rl1 (by assumption) (by exact rfl) | exact rl2 (by assumption) (by exact rfl) | exact rl3 (by assumption) (by exact rfl) | omega))); (case u => ktr_units); intro r9 post9 h9 tk9 F' N' P9; revert P9; (refine ex4 ?_); intro st9 lr9 li9 rest9 P9; revert P9; (refine an4 ?_); intro e9 up9 S9 V9; subst e9; have sub9 := V9.sub; (try dsimp only); (try k_sweep)))
  k_with "call ref" => (k_here; (with_reducible show wpAny _ _ (call (Value.ref 42) _) _ _ _); k_dflt (refine' runs_use (inmem_b (im_all ?S ?P) ?hb ?sub) ?B ?F ?X ?N ?T ?k ?d ?u ?_; (case B => k_asm); (case F => k_asm); (case X => k_asm); (case N => k_asm); (case S => assumption); (case P => (refine PlIn.mono ?_ (by assumption); kat_tups)); (case hb => assumption); (case sub => kat_tups); (case T => k_asm); (case k => exact rfl); (case d => ((try simp +zetaDelta only [depth_under_make, depth_under_kw, depth_in1, depth_deeper]); (try dsimp only [ktrTop]); (first | exact rl1 (by assumption) (by exact rfl) | exact rl2 (by assumption) (by exact rfl) | exact rl3 (by assumption) (by exact rfl) | omega))); (case u => ktr_units); intro r9 post9 h9 tk9 F' N' P9; revert P9; (refine an2 ?_); intro e9 e8; subst e9; (replace N' := newsEq N' e8); (first | clear e8 post9 | subst e8); (try dsimp only); (try k_sweep)))
  k_with "call ref" => (k_here; (with_reducible show wpAny _ _ (call (Value.ref 70) _) _ _ _); k_dflt (refine' runs_use (j_load ?J ?P ?hz ?hy) ?B ?F ?X ?N ?T ?k ?d ?u ?_; (case B => k_asm); (case F => k_asm); (case X => k_asm); (case N => k_asm); (case J => first | assumption | (refine' both_start ?S ?V ?i ?m1 ?m2 ?s ?a1 ?a2 ?ne; (case i => assumption); (case S => assumption); (case V => assumption); (case m1 => k_mem); (case m2 => k_mem); (case s => kat_tups); (case a1 => assumption); (case a2 => first | assumption | exact And.right (by assumption) | exact And.right (And.right (by assumption))); (case ne => exact neN (by omega)))); (case P => (refine PlIn.mono ?_ (by assumption); kat_tups)); (case hz => k_offL); (case hy => k_offL); (case T => k_asm); (case k => exact rfl); (case d => ((try simp +zetaDelta only [depth_under_make, depth_under_kw, depth_in1, depth_deeper]); (try dsimp only [ktrTop]); (first | exact rl1 (by assumption) (by exact rfl) | exact rl2 (by assumption) (by exact rfl) | exact rl3 (by assumption) (by exact rfl) | omega))); (case u => ktr_units); intro r9 post9 h9 tk9 F' N' P9; revert P9; (refine ex1 ?_); intro rest9 P9; revert P9; (refine an3 ?_); intro up9 J9 T9; have sub9 := J9.sub; (try dsimp only); (try k_sweep)))
  k_with "call ref" => (k_here; (with_reducible show wpAny _ _ (call (Value.ref 521) _) _ _ _); k_dflt (refine' runs_use (j_bload ?J ?P ?hz ?hy) ?B ?F ?X ?N ?T ?k ?d ?u ?_; (case B => k_asm); (case F => k_asm); (case X => k_asm); (case N => k_asm); (case J => first | assumption | (refine' both_start ?S ?V ?i ?m1 ?m2 ?s ?a1 ?a2 ?ne; (case i => assumption); (case S => assumption); (case V => assumption); (case m1 => k_mem); (case m2 => k_mem); (case s => kat_tups); (case a1 => assumption); (case a2 => first | assumption | exact And.right (by assumption) | exact And.right (And.right (by assumption))); (case ne => exact neN (by omega)))); (case P => (refine PlIn.mono ?_ (by assumption); kat_tups)); (case hz => k_offL); (case hy => k_offL); (case T => k_asm); (case k => exact rfl); (case d => ((try simp +zetaDelta only [depth_under_make, depth_under_kw, depth_in1, depth_deeper]); (try dsimp only [ktrTop]); (first | exact rl1 (by assumption) (by exact rfl) | exact rl2 (by assumption) (by exact rfl) | exact rl3 (by assumption) (by exact rfl) | omega))); (case u => ktr_units); intro r9 post9 h9 tk9 F' N' P9; revert P9; (refine ex1 ?_); intro rest9 P9; revert P9; (refine an3 ?_); intro up9 J9 T9; have sub9 := J9.sub; obtain ⟨jm, ja, jb, jc, jd, jS, jf1, jf2, jf3, jf4, jg1, jg2, jg3, jg4, jg5, jg6⟩ := J9; have jm2 := jm _ (.tail _ (.head _)); have jm3 := jm _ (.tail _ (.tail _ (.head _))); have jm4 := jm _ (.tail _ (.tail _ (.tail _ (.head _)))); clear jm; obtain ⟨m1, m2, m3, m4, m5, m6, m7, m8, m9, m10, m11, m12, m13, m14, m15, i1, i2, g1, g2, g3, g4, g5, g6, g7, n1, n2, n3, n4, n5, n6, n7, n8, n9, x1, x2, x3, x4, x5⟩ := jS; (try dsimp only); (try k_sweep)))
  k_with "compareOp NotEq" => (k_here; (with_reducible show wpAny _ _ (compareOp CmpOp.NotEq _ _) _ _ _); k_dflt (first
  | (refine' ne_load ?F ?X ?N ?T1 ?T2 ?u1 ?u2 ?u ?_; (case F => k_asm); (case X => k_asm); (case N => k_asm); (case T1 => assumption); (case T2 => assumption); (case u1 => kat_tups); (case u2 => kat_tups); (case u => ktr_units))
  | (refine' ne_way ?F ?X ?N ?T1 ?T2 ?u1 ?u2 ?u ?_; (case F => k_asm); (case X => k_asm); (case N => k_asm); (case T1 => assumption); (case T2 => assumption); (case u1 => kat_tups); (case u2 => kat_tups); (case u => ktr_units))
  | (refine' ne_along ?F ?X ?N ?T1 ?T2 ?u1 ?u2 ?u ?_; (case F => k_asm); (case X => k_asm); (case N => k_asm); (case T1 => assumption); (case T2 => assumption); (case u1 => kat_tups); (case u2 => kat_tups); (case u => ktr_units))))
  k_with "compareOp NotEq ref ref" => (k_here; k_dflt (refine' rows_ne ?F ?X ?N ?a ?b ?c ?d ?o ?n ?u ?_; (case F => k_asm); (case X => k_asm); (case N => k_asm); (case a => k_mem); (case b => k_mem); (case c => (refine TAll.up (by assumption) ?_; kat_tups)); (case d => (refine TAll.up (by assumption) ?_; kat_tups)); (case o => first | exact (ok_load _ _).2 | exact ok_alongR _ _ _); (case n => decide); (case u => ktr_units)))
  k_with "compareOp Eq ref ref" => (k_here; k_dflt (refine' rows_eq ?F ?X ?N ?a ?b ?c ?d ?o ?n ?u ?_; (case F => k_asm); (case X => k_asm); (case N => k_asm); (case a => k_mem); (case b => k_mem); (case c => (refine TAll.up (by assumption) ?_; kat_tups)); (case d => (refine TAll.up (by assumption) ?_; kat_tups)); (case o => first | exact (ok_load _ _).2 | exact ok_alongR _ _ _); (case n => decide); (case u => ktr_units)))
  k_with "call ref" => (k_here; (with_reducible show wpAny _ _ (call (Value.ref 500) _) _ _ _); k_dflt (refine' runs_use (c_begin4 ?h ?k) ?B ?F ?X ?N ?T ?kk ?d ?u ?_; (case B => k_asm); (case F => k_asm); (case X => k_asm); (case N => k_asm); (case h => (refine PlIn.mono ?_ (by assumption); kat_tups)); (case k => assumption); (case T => k_asm); (case kk => exact rfl); (case d => ((try simp +zetaDelta only [depth_under_make, depth_under_kw, depth_in1, depth_deeper]); (try dsimp only [ktrTop]); (first | exact rl1 (by assumption) (by exact rfl) | exact rl2 (by assumption) (by exact rfl) | exact rl3 (by assumption) (by exact rfl) | omega))); (case u => ktr_units); intro r9 post9 h9 tk9 F' N' P9; revert P9; (refine an2 ?_); intro e8 P9; revert P9; (refine ex5 ?_); intro ab9 tt9 ty9 z9 t9 P9; revert P9; (refine an2 ?_); intro e9 hb9; subst e9; (replace N' := newsEq N' e8); (first | clear e8 post9 | subst e8); (try dsimp only); (try k_sweep)))
  k_with "call ref" => (k_here; (with_reducible show wpAny _ _ (call (Value.ref 35) _) _ _ _); k_dflt (refine' runs_use (c_bk_slice ?S ?sub ?hm ?hT) ?B ?F ?X ?N ?T ?k ?d ?u ?_; (case B => k_asm); (case F => k_asm); (case X => k_asm); (case N => k_asm); (case S => assumption); (case sub => kat_tups); (case hm => k_mem); (case hT => (refine TIn.up (by assumption) ?_; kat_tups)); (case T => k_asm); (case k => exact rfl); (case d => ((try simp +zetaDelta only [depth_under_make, depth_under_kw, depth_in1, depth_deeper]); (try dsimp only [ktrTop]); (first | exact rl1 (by assumption) (by exact rfl) | exact rl2 (by assumption) (by exact rfl) | exact rl3 (by assumption) (by exact rfl) | omega))); (case u => ktr_units); intro r9 post9 h9 tk9 F' N' P9; revert P9; (refine an2 ?_); intro P9 e8; revert P9; (refine ex1 ?_); intro t9 e9; subst e9; (replace N' := newsEq N' e8); (first | clear e8 post9 | subst e8); (try dsimp only); (try k_sweep)))
  k_with "call ref" => (k_here; (with_reducible show wpAny _ _ (call (Value.ref 35) _) _ _ _); k_dflt (refine' runs_use (c_bk_array ?S ?sub ?hm ?hT) ?B ?F ?X ?N ?T ?k ?d ?u ?_; (case B => k_asm); (case F => k_asm); (case X => k_asm); (case N => k_asm); (case S => assumption); (case sub => kat_tups); (case hm => k_mem); (case hT => (refine TIn.up (by assumption) ?_; kat_tups)); (case T => k_asm); (case k => exact rfl); (case d => ((try simp +zetaDelta only [depth_under_make, depth_under_kw, depth_in1, depth_deeper]); (try dsimp only [ktrTop]); (first | exact rl1 (by assumption) (by exact rfl) | exact rl2 (by assumption) (by exact rfl) | exact rl3 (by assumption) (by exact rfl) | omega))); (case u => ktr_units); intro r9 post9 h9 tk9 F' N' P9; revert P9; (refine an2 ?_); intro P9 e8; revert P9; (refine ex1 ?_); intro t9 e9; subst e9; (replace N' := newsEq N' e8); (first | clear e8 post9 | subst e8); (try dsimp only); (try k_sweep)))
  k_with "eval BoolOp" => (k_here; (rename CutA => hcut); clear hcut; refine stop_elim ?_)
  k_with "isTrue BoolOp" => (k_here; (rename CutB => hcut); clear hcut; refine stop_elim ?_)
  k_with "eval Call" => (k_fold; (try (refine tok_gen ?_; intro tkz)))
  k_with "eval Call Attribute" => (k_fold; (try (refine tok_gen ?_; intro tkz)))
  k_with "eval Tuple" => (k_fold; (try (refine tok_gen ?_; intro tkz)))
  trivial
theorem right_N {w : World} {pre : List (Addr × Obj)} {v : Value} {p : Pl} (P : PlIn pre v p) (hkp : p.kept = false) (hsz : p.size ≤ 6) : Runs w 528 [v] pre 300 3000 (fun r _ => r = .bool true) := by
  have hs1 := size_pos p
  have hw := way_rows_le p 5
  have hst := way_steps_le p 5
  have hl := alongRows_len (p.way 5).begin (5 + (p.way 5).rows.length) (p.way 5).steps
  have hcb : CutB := trivial
  obtain ⟨pa, te, tt, ty, xs, rfl, hm, hK⟩ := kind_of P
  unfold Runs
  k_fill
  intro p loose mean mg mb dp un gd cn cs a ccd cl outer A₀ base h₀ L m s Q E B F X N T hk hd hu ret
  k_steps
  unfold Stop
  refine' cut_false ?F ?N ?h1 ?h2
  case F => k_asm
  case N => k_asm
  case h1 =>
    rcases hK with hne | ⟨rfl, z, b, bt, btt, bty, bxs, k, ds0, more, rfl, hb, hT, rfl | rfl⟩
    · k_steps
      all_goals exact cf_mk (by k_asm) (by k_asm) (by kat_tups)
    · k_steps
      all_goals exact cf_mk (by k_asm) (by k_asm) (by kat_tups)
    · k_steps
      all_goals exact cf_mk (by k_asm) (by k_asm) (by kat_tups)
  intro hX tkX FX NX
  clear hK
  k_steps
  exact ret _ _ _ _ (by k_asm) (by k_asm) rfl
theorem w_C37_0 : True := by
  w_top off
  k_with_none
  k_with "k_all" => (assumption)
  k_with "eval Dict" => (k_here; k_dflt (first
  | (refine' kdn_str ?q ?F ?N ?b ?a ?l ?e ?n ?_; (case q => rfl); (case F => k_asm); (case N => first | k_asm | exact News.nil); (case b => exact Top.nolimit (by k_asm)); (case a => rfl); (case l => rfl); (case e => exact List.cons_ne_nil _ _); (case n => exact Nat.le_of_ble_eq_true rfl))
  | (refine' kdn_int ?q ?F ?N ?b ?a ?l ?e ?n ?_; (case q => rfl); (case F => k_asm); (case N => first | k_asm | exact News.nil); (case b => exact Top.nolimit (by k_asm)); (case a => rfl); (case l => rfl); (case e => exact List.cons_ne_nil _ _); (case n => exact Nat.le_of_ble_eq_true rfl))); intro d' h' o' F' N' l1 lo' hd'; (try k_lt l1))
  k_with "eval Dict nil nil" => (k_here; k_dflt (refine' newDict_K ?k1 ?k2 (TopRead.nolimit (by k_asm)) ?_; (case k1 => k_asm); (case k2 => k_asm); k_whole); intro d' h' o' F' N' l1 lo' hs' fs' hi' fi'; (try k_lt l1); (try k_sweep))
  k_with "ktr_room" => (refine room_of ?_; (try simp +zetaDelta only [depth_under_make, depth_under_kw, depth_in1, depth_deeper]); (try dsimp only [ktrTop]); (first | exact rl1 (by assumption) (by exact rfl) | exact rl2 (by assumption) (by exact rfl) | exact rl3 (by assumption) (by exact rfl) | omega))
  k_with "ktr_enter" => (refine' code_def ?k1 ?k2 ?k3 ?k4 ?k5 ?kA ?kF ?kK ?k6 ?k7 ?k8 ?k9 ?kB ?_ ?c2 ?c3 ?c4 ?c5; (case kA => exact rfl); (case kF => exact rfl); (case kK => first | exact rfl | assumption); (case k1 => k_asm); (case k2 => k_asm); (case k3 => k_asm); (case k4 => k_asm); (case k5 => k_asm); (case k6 => k_is); (case k7 => k_is); (case k8 => ktr_room); (case k9 => first | exact BindsTo.of_eq rfl | exact binds_K (by k_in) rfl (by k_is) rfl rfl rfl); (case c5 => decide); (case kB => exact locs rfl); (case c2 => exact rfl); (case c3 => exact rfl); (case c4 => exact rfl); k_whole; intro g' L' h' FG' F' N' B' X' T'; (try dsimp only); (try k_fold); (try (refine let_enter ?_; intro M1 A1)))
  k_with "call ref" => (k_here; k_dflt (first
  | (refine wpAny_call ?_; ktr_enter)
  | (refine' call_cls0 ?k1 ?k2 ?k3 ?k4 ?k5 ?_; (case k1 => k_asm); (case k2 => k_asm); (case k3 => k_asm); (case k4 => k_is); (case k5 => k_is); k_whole; intro x' d' h' F' N' l1 l2; (try k_lt l1); (try k_lt2 l2); (try k_sweep))
  | (refine' call_cls ?k1 ?k2 ?k3 ?k4 ?k5 ?k6 ?_; (case k1 => k_asm); (case k2 => k_asm); (case k3 => k_asm); (case k4 => k_is); (case k5 => k_is); (case k6 => k_is); k_whole; intro x' d' h' F' N' l1 l2; (try k_lt l1); (try k_lt2 l2); (try k_sweep); ktr_enter)
  | (refine' call_meth ?k1 ?k2 ?_; (case k1 => k_asm); (case k2 => k_mem); k_whole; ktr_enter)))
  k_with "ktr_units" => ((try simp +zetaDelta only [units_in1, units_deeper, Around.mark_units, units_make]); (try dsimp only [ktrTop]); first | exact rl1 (by assumption) (by exact rfl) | exact rl2 (by assumption) (by exact rfl) | exact rl3 (by assumption) (by exact rfl) | omega | ((show _ < (9900 : Nat)); omega))
  k_with "call type:frozenset" => (k_here; k_dflt (refine' fz_call ?F ?N ?m ?d ?z ?_; (case F => k_asm); (case N => k_asm); (case m => k_mem); (case d => k_asm); (case z => k_asm)); intro D' h' tq' led' F' N' l1; (try k_lt l1))
  k_with "compareOp In int ref" => (k_here; k_dflt (refine' fz_in ?N ?m ?_; (case N => k_asm); (case m => k_mem)))
  k_with "call type:list" => (k_here; (with_reducible show wpAny _ _ (call (Value.type "list") [Value.ref _]) _ _ _); k_dflt (refine' list_copyK ?k1 ?k2 ?k3 ?_ ?z; (case k1 => k_asm); (case k2 => k_asm); (case k3 => exact News.isList (by k_asm) (by k_mem)); (case z => first | exact Nat.le_of_ble_eq_true rfl | omega); k_whole); intro D' c' h' F' N' l1; (try k_lt l1); (try k_sweep))
  k_with "k_mem" => (with_reducible kcf_m)
  k_with "k_get" => (with_reducible assumption)
  k_with "call builtin:len" => (k_here; (with_reducible show wpAny _ _ (call (Value.builtin "len") [Value.ref _]) _ _ _); k_dflt (refine' len_arr ?N ?m ?z ?_; (case N => k_asm); (case m => k_mem); (case z => (simp only [Array.size_push, List.size_toArray]; omega))))
  k_with "kcf_m" => (refine via (by assumption) ?_; kcf_m)
  k_with "subscriptTail Name Slice ref ref" => (k_here; (with_reducible show wpAny _ _ (subscriptTail _ _ (Value.ref _) (Value.ref _)) _ _ _); k_dflt (first
  | (refine' tup_head ?F ?N ?m ?h0 ?b ?e ?_ ?s ?t ?z; (case F => k_asm); (case N => k_asm); (case m => k_mem); (case h0 => decide); (case b => first | exact Nat.le_of_ble_eq_true rfl | (simp only [List.length_cons]; omega)); (case e => first | exact tk1 | exact dp1 | exact dp2 | exact rfl); (case s => with_unfolding_all rfl); (case t => kmk_pure); (case z => first | exact Nat.le_of_ble_eq_true rfl | (simp only [List.length_cons]; omega)))
  | (refine' tup_rest ?F ?N ?m ?h0 ?b ?e ?_ ?s ?t ?z; (case F => k_asm); (case N => k_asm); (case m => k_mem); (case h0 => decide); (case b => first | exact Nat.le_of_ble_eq_true rfl | (simp only [List.length_cons]; omega)); (case e => first | exact tk1 | exact dp1 | exact dp2 | exact rfl); (case s => with_unfolding_all rfl); (case t => kmk_pure); (case z => first | exact Nat.le_of_ble_eq_true rfl | (simp only [List.length_cons]; omega)))); intro D' h' F' N' l1; (try k_lt l1); (try k_sweep))
  k_with "subscriptTail" => (k_here; (with_reducible show wpAny _ _ (subscriptTail _ _ (Value.ref _) (Value.int _ _)) _ _ _); k_dflt (first
  | (refine' list_tailL ?N ?m ?a ?b ?x ?_ ?s; (case N => k_asm); (case m => k_mem); (case a => decide); (case b => decide); (case x => first | exact rfl | assumption); (case s => with_unfolding_all rfl))
  | (refine' dict_tail (knd := intKind _ _) ?N ?m ?d ?k ?v ?_ ?s; (case N => k_asm); (case m => k_mem); (case d => with_reducible assumption); (case k => exact intKind_is _ _ _ _); (case v => first | with_reducible assumption | exact rfl); (case s => with_unfolding_all rfl))))
  k_with "subscriptTail" => (k_here; (with_reducible show wpAny _ _ (subscriptTail _ _ (Value.ref _) (Value.str _ _)) _ _ _); k_dflt
  (refine' dict_tail (knd := strKind _ _) ?N ?m ?d ?k ?v ?_ ?s; (case N => k_asm); (case m => k_mem); (case d => with_reducible assumption); (case k => exact strKind_is _ _ _ _); (case v => exact rfl); (case s => with_unfolding_all rfl)))
  k_with "getItem ref str" => (k_here; k_dflt
  (refine' dict_get (knd := strKind _ _) ?N ?m ?d ?k ?v ?_; (case N => k_asm); (case m => k_mem); (case d => with_reducible assumption); (case k => exact strKind_is _ _ _ _); (case v => exact rfl)))
  k_with "compareOp In int ref" => (k_here; k_dflt (refine' fz_in' ?N ?m ?b ?_; (case N => k_asm); (case m => k_mem); (case b => first | assumption | exact rfl)))
  k_with "binaryOp Add ref ref" => (k_here; k_dflt (refine' tup_add ?F ?N ?a ?b ?v ?w ?z ?e ?_; (case F => k_asm); (case N => k_asm); (case a => k_mem); (case b => k_mem); (case v => first | exact List.cons_ne_nil _ _ | assumption); (case w => first | exact List.cons_ne_nil _ _ | assumption); (case z => first | exact Nat.le_of_ble_eq_true rfl | (simp only [List.length_cons, List.length_nil]; omega)); (case e => first | exact ap1 | exact ap2 | exact rfl)); intro D' h' F' N' l1; (try k_lt l1); (try k_sweep))
  k_with "newTuple" => (k_here; k_dflt (refine' kup_newTuple ?F ?N ?_ ?z; (case F => k_asm); (case N => k_asm); (case z => kmk_size)); intro D' h' F' N' l1; (try k_sweep))
  k_with "k_offL" => (first | omega | ((try simp only [List.length_append, List.length_cons, List.length_nil]); omega))
  k_with "subscriptTail" => (k_here; (with_reducible show wpAny _ _ (subscriptTail _ _ (Value.ref _) (Value.int 0 _)) _ _ _); k_dflt (refine' tin_sub0 ?F ?X ?N ?T ?_ ?s; (case F => k_asm); (case X => k_asm); (case N => k_asm); (case T => (refine TIn.up (by assumption) ?_; kat_tups)); (case s => with_unfolding_all rfl)); intro t0')
  k_with "subscriptTail" => (k_here; (with_reducible show wpAny _ _ (subscriptTail _ _ (Value.ref _) (Value.int _ _)) _ _ _); k_dflt (refine' tup_item ?N ?m ?a ?b ?x ?_ ?s; (case N => k_asm); (case m => k_mem); (case a => decide); (case b => decide); (case x => exact rfl); (case s => with_unfolding_all rfl)))
  k_with "compareOp Eq str str" => (k_here; k_dflt (refine' eq_str_f ?h ?_; (case h => with_reducible assumption)))
  k_with "compareOp NotEq str str" => (k_here; k_dflt (refine' ne_str_t ?h ?_; (case h => with_reducible assumption)))
  k_with "subscriptTail" => (k_here; (with_reducible show wpAny _ _ (subscriptTail _ _ (Value.ref _) (Value.str _ _)) _ _ _); k_dflt
  (refine' dict_tail (knd := strKind _ _) ?N ?m ?d ?k ?v ?_ ?s; (case N => k_asm); (case d => with_reducible assumption); (case m => k_mem); (case k => exact strKind_is _ _ _ _); (case v => exact rfl); (case s => with_unfolding_all rfl)))
  k_with "call ref" => (k_here; (with_reducible show wpAny _ _ (call (Value.ref 458) _) _ _ _); k_dflt (refine' runs_use (c_state _ _) ?B ?F ?X ?N ?T ?k ?d ?u ?_; (case B => k_asm); (case F => k_asm); (case X => k_asm); (case N => k_asm); (case T => k_asm); (case k => exact rfl); (case d => ((try simp +zetaDelta only [depth_under_make, depth_under_kw, depth_in1, depth_deeper]); (try dsimp only [ktrTop]); (first | exact rl1 (by assumption) (by exact rfl) | exact rl2 (by assumption) (by exact rfl) | exact rl3 (by assumption) (by exact rfl) | omega))); (case u => ktr_units); intro r9 post9 h9 tk9 F' N' P9; revert P9; (refine ex4 ?_); intro st9 lr9 li9 rest9 P9; revert P9; (refine an4 ?_); intro e9 up9 S9 V9; subst e9; have sub9 := V9.sub; (try dsimp only); (try k_sweep)))
  k_with "call ref" => (k_here; (with_reducible show wpAny _ _ (call (Value.ref 42) _) _ _ _); k_dflt (refine' runs_use (inmem_b (im_all ?S ?P) ?hb ?sub) ?B ?F ?X ?N ?T ?k ?d ?u ?_; (case B => k_asm); (case F => k_asm); (case X => k_asm); (case N => k_asm); (case S => assumption); (case P => (refine PlIn.mono ?_ (by assumption); kat_tups)); (case hb => assumption); (case sub => kat_tups); (case T => k_asm); (case k => exact rfl); (case d => ((try simp +zetaDelta only [depth_under_make, depth_under_kw, depth_in1, depth_deeper]); (try dsimp only [ktrTop]); (first | exact rl1 (by assumption) (by exact rfl) | exact rl2 (by assumption) (by exact rfl) | exact rl3 (by assumption) (by exact rfl) | omega))); (case u => ktr_units); intro r9 post9 h9 tk9 F' N' P9; revert P9; (refine an2 ?_); intro e9 e8; subst e9; (replace N' := newsEq N' e8); (first | clear e8 post9 | subst e8); (try dsimp only); (try k_sweep)))
  k_with "call ref" => (k_here; (with_reducible show wpAny _ _ (call (Value.ref 70) _) _ _ _); k_dflt (refine' runs_use (j_load ?J ?P ?hz ?hy) ?B ?F ?X ?N ?T ?k ?d ?u ?_; (case B => k_asm); (case F => k_asm); (case X => k_asm); (case N => k_asm); (case J => first | assumption | (refine' both_start ?S ?V ?i ?m1 ?m2 ?s ?a1 ?a2 ?ne; (case i => assumption); (case S => assumption); (case V => assumption); (case m1 => k_mem); (case m2 => k_mem); (case s => kat_tups); (case a1 => assumption); (case a2 => first | assumption | exact And.right (by assumption) | exact And.right (And.right (by assumption))); (case ne => exact neN (by omega)))); (case P => (refine PlIn.mono ?_ (by assumption); kat_tups)); (case hz => k_offL); (case hy => k_offL); (case T => k_asm); (case k => exact rfl); (case d => ((try simp +zetaDelta only [depth_under_make, depth_under_kw, depth_in1, depth_deeper]); (try dsimp only [ktrTop]); (first | exact rl1 (by assumption) (by exact rfl) | exact rl2 (by assumption) (by exact rfl) | exact rl3 (by assumption) (by exact rfl) | omega))); (case u => ktr_units); intro r9 post9 h9 tk9 F' N' P9; revert P9; (refine ex1 ?_); intro rest9 P9; revert P9; (refine an3 ?_); intro up9 J9 T9; have sub9 := J9.sub; (try dsimp only); (try k_sweep)))
  k_with "call ref" => (k_here; (with_reducible show wpAny _ _ (call (Value.ref 521) _) _ _ _); k_dflt (refine' runs_use (j_bload ?J ?P ?hz ?hy) ?B ?F ?X ?N ?T ?k ?d ?u ?_; (case B => k_asm); (case F => k_asm); (case X => k_asm); (case N => k_asm); (case J => first | assumption | (refine' both_start ?S ?V ?i ?m1 ?m2 ?s ?a1 ?a2 ?ne; (case i => assumption); (case S => assumption); (case V => assumption); (case m1 => k_mem); (case m2 => k_mem); (case s => kat_tups); (case a1 => assumption); (case a2 => first | assumption | exact And.right (by assumption) | exact And.right (And.right (by assumption))); (case ne => exact neN (by omega)))); (case P => (refine PlIn.mono ?_ (by assumption); kat_tups)); (case hz => k_offL); (case hy => k_offL); (case T => k_asm); (case k => exact rfl); (case d => ((try simp +zetaDelta only [depth_under_make, depth_under_kw, depth_in1, depth_deeper]); (try dsimp only [ktrTop]); (first | exact rl1 (by assumption) (by exact rfl) | exact rl2 (by assumption) (by exact rfl) | exact rl3 (by assumption) (by exact rfl) | omega))); (case u => ktr_units); intro r9 post9 h9 tk9 F' N' P9; revert P9; (refine ex1 ?_); intro rest9 P9; revert P9; (refine an3 ?_); intro up9 J9 T9; have sub9 := J9.sub; obtain ⟨jm, ja, jb, jc, jd, jS, jf1, jf2, jf3, jf4, jg1, jg2, jg3, jg4, jg5, jg6⟩ := J9; have jm2 := jm _ (.tail _ (.head _)); have jm3 := jm _ (.tail _ (.tail _ (.head _))); have jm4 := jm _ (.tail _ (.tail _ (.tail _ (.head _)))); clear jm; obtain ⟨m1, m2, m3, m4, m5, m6, m7, m8, m9, m10, m11, m12, m13, m14, m15, i1, i2, g1, g2, g3, g4, g5, g6, g7, n1, n2, n3, n4, n5, n6, n7, n8, n9, x1, x2, x3, x4, x5⟩ := jS; (try dsimp only); (try k_sweep)))
  k_with "call ref" => (k_here; (with_reducible show wpAny _ _ (call (Value.ref 56) _) _ _ _); k_dflt (refine' runs_use (j_way ?J ?P ?hz ?hy) ?B ?F ?X ?N ?T ?k ?d ?u ?_; (case B => k_asm); (case F => k_asm); (case X => k_asm); (case N => k_asm); (case J => first | assumption | (refine' both_start ?S ?V ?i ?m1 ?m2 ?s ?a1 ?a2 ?ne; (case i => assumption); (case S => assumption); (case V => assumption); (case m1 => k_mem); (case m2 => k_mem); (case s => kat_tups); (case a1 => assumption); (case a2 => first | assumption | exact And.right (by assumption) | exact And.right (And.right (by assumption))); (case ne => exact neN (by omega)))); (case P => (refine PlIn.mono ?_ (by assumption); kat_tups)); (case hz => k_offL); (case hy => k_offL); (case T => k_asm); (case k => exact rfl); (case d => ((try simp +zetaDelta only [depth_under_make, depth_under_kw, depth_in1, depth_deeper]); (try dsimp only [ktrTop]); (first | exact rl1 (by assumption) (by exact rfl) | exact rl2 (by assumption) (by exact rfl) | exact rl3 (by assumption) (by exact rfl) | omega))); (case u => ktr_units); intro r9 post9 h9 tk9 F' N' P9; revert P9; (refine ex1 ?_); intro rest9 P9; revert P9; (refine an3 ?_); intro up9 J9 T9; have sub9 := J9.sub; (try dsimp only); (try k_sweep)))
  k_with "call ref" => (k_here; (with_reducible show wpAny _ _ (call (Value.ref 507) _) _ _ _); k_dflt (refine' runs_use (j_bway ?J ?P ?k ?hz ?hy) ?B ?F ?X ?N ?T ?kk ?d ?u ?_; (case B => k_asm); (case F => k_asm); (case X => k_asm); (case N => k_asm); (case J => first | assumption | (refine' both_start ?S ?V ?i ?m1 ?m2 ?s ?a1 ?a2 ?ne; (case i => assumption); (case S => assumption); (case V => assumption); (case m1 => k_mem); (case m2 => k_mem); (case s => kat_tups); (case a1 => assumption); (case a2 => first | assumption | exact And.right (by assumption) | exact And.right (And.right (by assumption))); (case ne => exact neN (by omega)))); (case P => (refine PlIn.mono ?_ (by assumption); kat_tups)); (case k => assumption); (case hz => k_offL); (case hy => k_offL); (case T => k_asm); (case kk => exact rfl); (case d => ((try simp +zetaDelta only [depth_under_make, depth_under_kw, depth_in1, depth_deeper]); (try dsimp only [ktrTop]); (first | exact rl1 (by assumption) (by exact rfl) | exact rl2 (by assumption) (by exact rfl) | exact rl3 (by assumption) (by exact rfl) | omega))); (case u => ktr_units); intro r9 post9 h9 tk9 F' N' P9; revert P9; (refine ex1 ?_); intro rest9 P9; revert P9; (refine an3 ?_); intro up9 J9 T9; have sub9 := J9.sub; (try dsimp only); (try k_sweep)))
  k_with "call ref" => (k_here; (with_reducible show wpAny _ _ (call (Value.ref 63) _) _ _ _); k_dflt (refine' runs_use (j_along ?J ?W ?hz ?hy) ?B ?F ?X ?N ?T ?k ?d ?u ?_; (case B => k_asm); (case F => k_asm); (case X => k_asm); (case N => k_asm); (case J => first | assumption | (refine' both_start ?S ?V ?i ?m1 ?m2 ?s ?a1 ?a2 ?ne; (case i => assumption); (case S => assumption); (case V => assumption); (case m1 => k_mem); (case m2 => k_mem); (case s => kat_tups); (case a1 => assumption); (case a2 => first | assumption | exact And.right (by assumption) | exact And.right (And.right (by assumption))); (case ne => exact neN (by omega)))); (case W => (refine WayIn.mono ?_ (by assumption); kat_tups)); (case hz => k_offL); (case hy => k_offL); (case T => k_asm); (case k => exact rfl); (case d => ((try simp +zetaDelta only [depth_under_make, depth_under_kw, depth_in1, depth_deeper]); (try dsimp only [ktrTop]); (first | exact rl1 (by assumption) (by exact rfl) | exact rl2 (by assumption) (by exact rfl) | exact rl3 (by assumption) (by exact rfl) | omega))); (case u => ktr_units); intro r9 post9 h9 tk9 F' N' P9; revert P9; (refine ex1 ?_); intro rest9 P9; revert P9; (refine an3 ?_); intro up9 J9 T9; have sub9 := J9.sub; (try dsimp only); (try k_sweep)))
  k_with "call ref" => (k_here; (with_reducible show wpAny _ _ (call (Value.ref 514) _) _ _ _); k_dflt (refine' runs_use (j_bptr ?J ?W ?hy) ?B ?F ?X ?N ?T ?k ?d ?u ?_; (case B => k_asm); (case F => k_asm); (case X => k_asm); (case N => k_asm); (case J => first | assumption | (refine' both_start ?S ?V ?i ?m1 ?m2 ?s ?a1 ?a2 ?ne; (case i => assumption); (case S => assumption); (case V => assumption); (case m1 => k_mem); (case m2 => k_mem); (case s => kat_tups); (case a1 => assumption); (case a2 => first | assumption | exact And.right (by assumption) | exact And.right (And.right (by assumption))); (case ne => exact neN (by omega)))); (case W => (refine WayIn.mono ?_ (by assumption); kat_tups)); (case hy => k_offL); (case T => k_asm); (case k => exact rfl); (case d => ((try simp +zetaDelta only [depth_under_make, depth_under_kw, depth_in1, depth_deeper]); (try dsimp only [ktrTop]); (first | exact rl1 (by assumption) (by exact rfl) | exact rl2 (by assumption) (by exact rfl) | exact rl3 (by assumption) (by exact rfl) | omega))); (case u => ktr_units); intro r9 post9 h9 tk9 F' N' P9; revert P9; (refine ex1 ?_); intro rest9 P9; revert P9; (refine an3 ?_); intro up9 J9 T9; have sub9 := J9.sub; obtain ⟨jm, ja, jb, jc, jd, jS, jf1, jf2, jf3, jf4, jg1, jg2, jg3, jg4, jg5, jg6⟩ := J9; have jm2 := jm _ (.tail _ (.head _)); have jm3 := jm _ (.tail _ (.tail _ (.head _))); have jm4 := jm _ (.tail _ (.tail _ (.tail _ (.head _)))); clear jm; obtain ⟨m1, m2, m3, m4, m5, m6, m7, m8, m9, m10, m11, m12, m13, m14, m15, i1, i2, g1, g2, g3, g4, g5, g6, g7, n1, n2, n3, n4, n5, n6, n7, n8, n9, x1, x2, x3, x4, x5⟩ := jS; (try dsimp only); (try k_sweep)))
  k_with "compareOp NotEq" => (k_here; (with_reducible show wpAny _ _ (compareOp CmpOp.NotEq _ _) _ _ _); k_dflt (first
  | (refine' ne_load ?F ?X ?N ?T1 ?T2 ?u1 ?u2 ?u ?_; (case F => k_asm); (case X => k_asm); (case N => k_asm); (case T1 => assumption); (case T2 => assumption); (case u1 => kat_tups); (case u2 => kat_tups); (case u => ktr_units))
  | (refine' ne_way ?F ?X ?N ?T1 ?T2 ?u1 ?u2 ?u ?_; (case F => k_asm); (case X => k_asm); (case N => k_asm); (case T1 => assumption); (case T2 => assumption); (case u1 => kat_tups); (case u2 => kat_tups); (case u => ktr_units))
  | (refine' ne_along ?F ?X ?N ?T1 ?T2 ?u1 ?u2 ?u ?_; (case F => k_asm); (case X => k_asm); (case N => k_asm); (case T1 => assumption); (case T2 => assumption); (case u1 => kat_tups); (case u2 => kat_tups); (case u => ktr_units))))
  k_with "compareOp NotEq ref ref" => (k_here; k_dflt (refine' rows_ne ?F ?X ?N ?a ?b ?c ?d ?o ?n ?u ?_; (case F => k_asm); (case X => k_asm); (case N => k_asm); (case a => k_mem); (case b => k_mem); (case c => (refine TAll.up (by assumption) ?_; kat_tups)); (case d => (refine TAll.up (by assumption) ?_; kat_tups)); (case o => first | exact (ok_load _ _).2 | exact ok_alongR _ _ _); (case n => decide); (case u => ktr_units)))
  k_with "compareOp Eq ref ref" => (k_here; k_dflt (refine' rows_eq ?F ?X ?N ?a ?b ?c ?d ?o ?n ?u ?_; (case F => k_asm); (case X => k_asm); (case N => k_asm); (case a => k_mem); (case b => k_mem); (case c => (refine TAll.up (by assumption) ?_; kat_tups)); (case d => (refine TAll.up (by assumption) ?_; kat_tups)); (case o => first | exact (ok_load _ _).2 | exact ok_alongR _ _ _); (case n => decide); (case u => ktr_units)))
  k_with "call ref" => (k_here; (with_reducible show wpAny _ _ (call (Value.ref 500) _) _ _ _); k_dflt (refine' runs_use (c_beginK ?h ?k) ?B ?F ?X ?N ?T ?kk ?d ?u ?_; (case B => k_asm); (case F => k_asm); (case X => k_asm); (case N => k_asm); (case h => (refine PlIn.mono ?_ (by assumption); kat_tups)); (case k => assumption); (case T => k_asm); (case kk => exact rfl); (case d => ((try simp +zetaDelta only [depth_under_make, depth_under_kw, depth_in1, depth_deeper]); (try dsimp only [ktrTop]); (first | exact rl1 (by assumption) (by exact rfl) | exact rl2 (by assumption) (by exact rfl) | exact rl3 (by assumption) (by exact rfl) | omega))); (case u => ktr_units); intro r9 post9 h9 tk9 F' N' P9; revert P9; (refine an2 ?_); intro e8 P9; revert P9; (refine ex7 ?_); intro ab9 te9 tt9 ty9 z9 x9 xs9 P9; revert P9; (refine an3 ?_); intro e9 hb9 hc9; subst e9; (replace N' := newsEq N' e8); (first | clear e8 post9 | subst e8); (try dsimp only); (try k_sweep)))
  k_with "call ref" => (k_here; (with_reducible show wpAny _ _ (call (Value.ref 35) _) _ _ _); k_dflt (refine' runs_use (c_bk_slice ?S ?sub ?hm ?hT) ?B ?F ?X ?N ?T ?k ?d ?u ?_; (case B => k_asm); (case F => k_asm); (case X => k_asm); (case N => k_asm); (case S => assumption); (case sub => kat_tups); (case hm => k_mem); (case hT => (refine TIn.up (by assumption) ?_; kat_tups)); (case T => k_asm); (case k => exact rfl); (case d => ((try simp +zetaDelta only [depth_under_make, depth_under_kw, depth_in1, depth_deeper]); (try dsimp only [ktrTop]); (first | exact rl1 (by assumption) (by exact rfl) | exact rl2 (by assumption) (by exact rfl) | exact rl3 (by assumption) (by exact rfl) | omega))); (case u => ktr_units); intro r9 post9 h9 tk9 F' N' P9; revert P9; (refine an2 ?_); intro P9 e8; revert P9; (refine ex1 ?_); intro t9 e9; subst e9; (replace N' := newsEq N' e8); (first | clear e8 post9 | subst e8); (try dsimp only); (try k_sweep)))
  k_with "call ref" => (k_here; (with_reducible show wpAny _ _ (call (Value.ref 35) _) _ _ _); k_dflt (refine' runs_use (c_bk_array ?S ?sub ?hm ?hT) ?B ?F ?X ?N ?T ?k ?d ?u ?_; (case B => k_asm); (case F => k_asm); (case X => k_asm); (case N => k_asm); (case S => assumption); (case sub => kat_tups); (case hm => k_mem); (case hT => (refine TIn.up (by assumption) ?_; kat_tups)); (case T => k_asm); (case k => exact rfl); (case d => ((try simp +zetaDelta only [depth_under_make, depth_under_kw, depth_in1, depth_deeper]); (try dsimp only [ktrTop]); (first | exact rl1 (by assumption) (by exact rfl) | exact rl2 (by assumption) (by exact rfl) | exact rl3 (by assumption) (by exact rfl) | omega))); (case u => ktr_units); intro r9 post9 h9 tk9 F' N' P9; revert P9; (refine an2 ?_); intro P9 e8; revert P9; (refine ex1 ?_); intro t9 e9; subst e9; (replace N' := newsEq N' e8); (first | clear e8 post9 | subst e8); (try dsimp only); (try k_sweep)))
  k_with "eval BoolOp" => (k_here; (rename CutA => hcut); clear hcut; refine stop_elim ?_)
  k_with "isTrue BoolOp" => (k_here; (rename CutB => hcut); clear hcut; refine stop_elim ?_)
  k_with "eval Call" => (k_fold; (try (refine tok_gen ?_; intro tkz)))
  k_with "eval Call Attribute" => (k_fold; (try (refine tok_gen ?_; intro tkz)))
  k_with "eval Tuple" => (k_fold; (try (refine tok_gen ?_; intro tkz)))
  trivial
theorem right_K {w : World} {pre : List (Addr × Obj)} {v : Value} {p : Pl} (P : PlIn pre v p) (hkp : p.kept = true) (hsz : p.size ≤ 6) : Runs w 528 [v] pre 300 3000 (fun r _ => r = .bool true) := by
  have hs1 := size_pos p
  have hw := way_rows_le p 5
  have hst := way_steps_le p 5
  have hl := alongRows_len (p.way 5).begin (5 + (p.way 5).rows.length) (p.way 5).steps
  have hca : CutA := trivial
  have hcb : CutB := trivial
  obtain ⟨pa, te, tt, ty, xs, rfl, hm, hK⟩ := kind_of P
  unfold Runs
  k_fill
  intro p loose mean mg mb dp un gd cn cs a ccd cl outer A₀ base h₀ L m s Q E B F X N T hk hd hu ret
  k_steps
  unfold Stop
  refine' cut_val (b := true) ?g1 ?g2
  case g1 =>
    clear hcb
    obtain hc | ⟨hc, t0, hx⟩ := (by assumption : (_ ≠ Str.ofString "local") ∨ (_ = Str.ofString "local" ∧ ∃ t, _ = Value.int 0 t))
    · k_steps
      all_goals exact cv_mk
    · subst hc
      subst hx
      k_steps
      all_goals exact cv_mk
  intro tkY
  k_steps
  unfold Stop
  refine' cut_false ?F ?N ?h1 ?h2
  case F => k_asm
  case N => k_asm
  case h1 =>
    rcases hK with hne | ⟨rfl, z, b, bt, btt, bty, bxs, k, ds0, more, rfl, hb, hT, rfl | rfl⟩
    · k_steps
      all_goals exact cf_mk (by k_asm) (by k_asm) (by kat_tups)
    · k_steps
      all_goals exact cf_mk (by k_asm) (by k_asm) (by kat_tups)
    · k_steps
      all_goals exact cf_mk (by k_asm) (by k_asm) (by kat_tups)
  intro hX tkX FX NX
  clear hK
  k_steps
  exact ret _ _ _ _ (by k_asm) (by k_asm) rfl
theorem c_right {w : World} {pre : List (Addr × Obj)} {v : Value} {p : Pl} (P : PlIn pre v p) (hsz : p.size ≤ 6) : Runs w 528 [v] pre 300 3000 (fun r _ => r = .bool true) := by
  cases hk : p.kept with
  | true => exact right_K P hk hsz
  | false => exact right_N P hk hsz
def RunsH (w : World) (f : Addr) (args : List Value) (H : Heap → Prop) (pre : List (Addr × Obj)) (dd uu : Nat) (Post : Value → List (Addr × Obj) → Prop) : Prop :=
  ∀ (p : Program) (loose : List Str) (mean : ExcName → Option Value) (mg mb : Str → Option Value) (dp un : Nat) (gd : Option (List Code)) (cn : Str) (cs : Scope) (a : Addr) (ccd : Value) (cl : List (Str × Addr)) (outer : List Env) (A₀ : Around) (base h₀ : Heap) (L : Addr) (m : Str → Option Value) (s : Shared)
    (Q E : Value → Shared → Prop),
    H h₀ → Below A₀ base outer h₀ → Fr h₀ L s.heap m → (hd.heap_39 w.params).In h₀ → News h₀ L s.heap pre → Top p loose mean mg mb h₀ → cs.kind = .function → dp + dd < 1000 → un + uu < 9900 →
    (∀ r post h' tk', Fr h₀ L h' m → News h₀ L h' post → Post r post → Q r { s with heap := h', toks := tk' }) →
    wpAny (model PySem.Challenge.rw_xm0177_01.row.prog w) (ktrTop dp un gd cn cs L a ccd cl outer) (call (.ref f) args) Q E s
theorem runsH_use {w : World} {f : Addr} {args : List Value} {H : Heap → Prop} {pre : List (Addr × Obj)} {dd uu : Nat} {Post : Value → List (Addr × Obj) → Prop} {p : Program} {loose : List Str} {mean : ExcName → Option Value} {mg mb : Str → Option Value} {dp un : Nat} {gd : Option (List Code)} {cn : Str} {cs : Scope} {a : Addr} {ccd : Value} {cl : List (Str × Addr)} {outer : List Env} {A₀ : Around} {base h₀ : Heap} {L : Addr} {m : Str → Option Value} {s : Shared}
    {Q E : Value → Shared → Prop} (C : RunsH w f args H pre dd uu Post) (hH : H h₀)
    (B : Below A₀ base outer h₀) (F : Fr h₀ L s.heap m) (X : (hd.heap_39 w.params).In h₀) (N : News h₀ L s.heap pre) (T : Top p loose mean mg mb h₀) (hk : cs.kind = .function) (hd : dp + dd < 1000) (hu : un + uu < 9900)
    (ret : ∀ r post h' tk', Fr h₀ L h' m → News h₀ L h' post → Post r post → Q r { s with heap := h', toks := tk' }) :
    wpAny (model PySem.Challenge.rw_xm0177_01.row.prog w) (ktrTop dp un gd cn cs L a ccd cl outer) (call (.ref f) args) Q E s := C _ _ _ _ _ _ _ _ _ _ _ _ _ _ _ _ _ _ _ _ _ _ hH B F X N T hk hd hu ret
section
variable {prog : Program} {w : World} {A : Around} {E : Value → Shared → Prop} {s : Shared} {h₀ g : Heap} {L L' : Addr} {m m' : Str → Option Value}
theorem len_H {l : Addr} {vs : Array Value} {k : Nat} {Q : Value → Shared → Prop} (hS : h₀.IsList l vs) (F1 : Fr h₀ L g m) (F2 : Fr g L' s.heap m') (hk : vs.size = k) (hz : k ≤ 100000) (h : Q (.int (k : Int) (s.toks + 1)) { s with toks := s.toks + 1 + 1 }) :
    wpAny (model prog w) A (call (.builtin "len") [.ref l]) Q E s := by
  subst hk
  exact len_list (hS.at fun _ e => F2.keep _ _ (F1.keep _ _ e)) (by omega) h
theorem item_H {value slice : Expr} {l : Addr} {v : Value} {r : List Value} {u : Tok} {Q : Value → Shared → Prop} (hS : h₀.IsList l (v :: r).toArray) (F1 : Fr h₀ L g m) (F2 : Fr g L' s.heap m') (h : Q v s)
    (hs : subscripted slice false (.ref l) (.int 0 u) = operate [.ref l, .int 0 u] (getItem (.ref l) (.int 0 u))) : wpAny (model prog w) A (subscriptTail value slice (.ref l) (.int 0 u)) Q E s := by
  have hl := hS.at fun _ e => F2.keep _ _ (F1.keep _ _ e)
  exact tail_any hl.typeIs slot_list_getitem.lookup (wpAny_getItem_list hl (by decide) (by decide) (by simp) h) hs
end
theorem w_C38_0 : True := by
  w_top off
  k_with_none
  k_with "k_all" => (assumption)
  k_with "eval Dict" => (k_here; k_dflt (first
  | (refine' kdn_str ?q ?F ?N ?b ?a ?l ?e ?n ?_; (case q => rfl); (case F => k_asm); (case N => first | k_asm | exact News.nil); (case b => exact Top.nolimit (by k_asm)); (case a => rfl); (case l => rfl); (case e => exact List.cons_ne_nil _ _); (case n => exact Nat.le_of_ble_eq_true rfl))
  | (refine' kdn_int ?q ?F ?N ?b ?a ?l ?e ?n ?_; (case q => rfl); (case F => k_asm); (case N => first | k_asm | exact News.nil); (case b => exact Top.nolimit (by k_asm)); (case a => rfl); (case l => rfl); (case e => exact List.cons_ne_nil _ _); (case n => exact Nat.le_of_ble_eq_true rfl))); intro d' h' o' F' N' l1 lo' hd'; (try k_lt l1))
  k_with "eval Dict nil nil" => (k_here; k_dflt (refine' newDict_K ?k1 ?k2 (TopRead.nolimit (by k_asm)) ?_; (case k1 => k_asm); (case k2 => k_asm); k_whole); intro d' h' o' F' N' l1 lo' hs' fs' hi' fi'; (try k_lt l1); (try k_sweep))
  k_with "ktr_room" => (refine room_of ?_; (try simp +zetaDelta only [depth_under_make, depth_under_kw, depth_in1, depth_deeper]); (try dsimp only [ktrTop]); (first | exact rl1 (by assumption) (by exact rfl) | exact rl2 (by assumption) (by exact rfl) | exact rl3 (by assumption) (by exact rfl) | omega))
  k_with "ktr_enter" => (refine' code_def ?k1 ?k2 ?k3 ?k4 ?k5 ?kA ?kF ?kK ?k6 ?k7 ?k8 ?k9 ?kB ?_ ?c2 ?c3 ?c4 ?c5; (case kA => exact rfl); (case kF => exact rfl); (case kK => first | exact rfl | assumption); (case k1 => k_asm); (case k2 => k_asm); (case k3 => k_asm); (case k4 => k_asm); (case k5 => k_asm); (case k6 => k_is); (case k7 => k_is); (case k8 => ktr_room); (case k9 => first | exact BindsTo.of_eq rfl | exact binds_K (by k_in) rfl (by k_is) rfl rfl rfl); (case c5 => decide); (case kB => exact locs rfl); (case c2 => exact rfl); (case c3 => exact rfl); (case c4 => exact rfl); k_whole; intro g' L' h' FG' F' N' B' X' T'; (try dsimp only); (try k_fold); (try (refine let_enter ?_; intro M1 A1)))
  k_with "call ref" => (k_here; k_dflt (first
  | (refine wpAny_call ?_; ktr_enter)
  | (refine' call_cls0 ?k1 ?k2 ?k3 ?k4 ?k5 ?_; (case k1 => k_asm); (case k2 => k_asm); (case k3 => k_asm); (case k4 => k_is); (case k5 => k_is); k_whole; intro x' d' h' F' N' l1 l2; (try k_lt l1); (try k_lt2 l2); (try k_sweep))
  | (refine' call_cls ?k1 ?k2 ?k3 ?k4 ?k5 ?k6 ?_; (case k1 => k_asm); (case k2 => k_asm); (case k3 => k_asm); (case k4 => k_is); (case k5 => k_is); (case k6 => k_is); k_whole; intro x' d' h' F' N' l1 l2; (try k_lt l1); (try k_lt2 l2); (try k_sweep); ktr_enter)
  | (refine' call_meth ?k1 ?k2 ?_; (case k1 => k_asm); (case k2 => k_mem); k_whole; ktr_enter)))
  k_with "ktr_units" => ((try simp +zetaDelta only [units_in1, units_deeper, Around.mark_units, units_make]); (try dsimp only [ktrTop]); first | exact rl1 (by assumption) (by exact rfl) | exact rl2 (by assumption) (by exact rfl) | exact rl3 (by assumption) (by exact rfl) | omega | ((show _ < (9900 : Nat)); omega))
  k_with "call type:frozenset" => (k_here; k_dflt (refine' fz_call ?F ?N ?m ?d ?z ?_; (case F => k_asm); (case N => k_asm); (case m => k_mem); (case d => k_asm); (case z => k_asm)); intro D' h' tq' led' F' N' l1; (try k_lt l1))
  k_with "compareOp In int ref" => (k_here; k_dflt (refine' fz_in ?N ?m ?_; (case N => k_asm); (case m => k_mem)))
  k_with "call type:list" => (k_here; (with_reducible show wpAny _ _ (call (Value.type "list") [Value.ref _]) _ _ _); k_dflt (refine' list_copyK ?k1 ?k2 ?k3 ?_ ?z; (case k1 => k_asm); (case k2 => k_asm); (case k3 => exact News.isList (by k_asm) (by k_mem)); (case z => first | exact Nat.le_of_ble_eq_true rfl | omega); k_whole); intro D' c' h' F' N' l1; (try k_lt l1); (try k_sweep))
  k_with "k_mem" => (with_reducible kcf_m)
  k_with "k_get" => (with_reducible assumption)
  k_with "subscriptTail Name Slice ref ref" => (k_here; (with_reducible show wpAny _ _ (subscriptTail _ _ (Value.ref _) (Value.ref _)) _ _ _); k_dflt (first
  | (refine' tup_head ?F ?N ?m ?h0 ?b ?e ?_ ?s ?t ?z; (case F => k_asm); (case N => k_asm); (case m => k_mem); (case h0 => decide); (case b => first | exact Nat.le_of_ble_eq_true rfl | (simp only [List.length_cons]; omega)); (case e => first | exact tk1 | exact dp1 | exact dp2 | exact rfl); (case s => with_unfolding_all rfl); (case t => kmk_pure); (case z => first | exact Nat.le_of_ble_eq_true rfl | (simp only [List.length_cons]; omega)))
  | (refine' tup_rest ?F ?N ?m ?h0 ?b ?e ?_ ?s ?t ?z; (case F => k_asm); (case N => k_asm); (case m => k_mem); (case h0 => decide); (case b => first | exact Nat.le_of_ble_eq_true rfl | (simp only [List.length_cons]; omega)); (case e => first | exact tk1 | exact dp1 | exact dp2 | exact rfl); (case s => with_unfolding_all rfl); (case t => kmk_pure); (case z => first | exact Nat.le_of_ble_eq_true rfl | (simp only [List.length_cons]; omega)))); intro D' h' F' N' l1; (try k_lt l1); (try k_sweep))
  k_with "subscriptTail" => (k_here; (with_reducible show wpAny _ _ (subscriptTail _ _ (Value.ref _) (Value.int _ _)) _ _ _); k_dflt (first
  | (refine' list_tailL ?N ?m ?a ?b ?x ?_ ?s; (case N => k_asm); (case m => k_mem); (case a => decide); (case b => decide); (case x => first | exact rfl | assumption); (case s => with_unfolding_all rfl))
  | (refine' dict_tail (knd := intKind _ _) ?N ?m ?d ?k ?v ?_ ?s; (case N => k_asm); (case m => k_mem); (case d => with_reducible assumption); (case k => exact intKind_is _ _ _ _); (case v => first | with_reducible assumption | exact rfl); (case s => with_unfolding_all rfl))))
  k_with "subscriptTail" => (k_here; (with_reducible show wpAny _ _ (subscriptTail _ _ (Value.ref _) (Value.str _ _)) _ _ _); k_dflt
  (refine' dict_tail (knd := strKind _ _) ?N ?m ?d ?k ?v ?_ ?s; (case N => k_asm); (case m => k_mem); (case d => with_reducible assumption); (case k => exact strKind_is _ _ _ _); (case v => exact rfl); (case s => with_unfolding_all rfl)))
  k_with "getItem ref str" => (k_here; k_dflt
  (refine' dict_get (knd := strKind _ _) ?N ?m ?d ?k ?v ?_; (case N => k_asm); (case m => k_mem); (case d => with_reducible assumption); (case k => exact strKind_is _ _ _ _); (case v => exact rfl)))
  k_with "compareOp In int ref" => (k_here; k_dflt (refine' fz_in' ?N ?m ?b ?_; (case N => k_asm); (case m => k_mem); (case b => first | assumption | exact rfl)))
  k_with "binaryOp Add ref ref" => (k_here; k_dflt (refine' tup_add ?F ?N ?a ?b ?v ?w ?z ?e ?_; (case F => k_asm); (case N => k_asm); (case a => k_mem); (case b => k_mem); (case v => first | exact List.cons_ne_nil _ _ | assumption); (case w => first | exact List.cons_ne_nil _ _ | assumption); (case z => first | exact Nat.le_of_ble_eq_true rfl | (simp only [List.length_cons, List.length_nil]; omega)); (case e => first | exact ap1 | exact ap2 | exact rfl)); intro D' h' F' N' l1; (try k_lt l1); (try k_sweep))
  k_with "call builtin:len" => (k_here; k_dflt (refine' len_H (by assumption) ?a ?b ?c ?d ?_; (case b => k_asm); (case a => assumption); (case c => exact rfl); (case d => first | exact Nat.le_of_ble_eq_true rfl | assumption)))
  k_with "subscriptTail" => (k_here; k_dflt (refine' item_H (by assumption) ?a ?b ?_ ?s; (case b => k_asm); (case a => assumption); (case s => with_unfolding_all rfl)))
  k_with "eval Call" => (k_fold; (try (refine tok_gen ?_; intro tkz)))
  k_with "eval Call Attribute" => (k_fold; (try (refine tok_gen ?_; intro tkz)))
  k_with "eval Tuple" => (k_fold; (try (refine tok_gen ?_; intro tkz)))
  trivial
theorem c_pool0 {w : World} {pre : List (Addr × Obj)} {sa : Addr} : RunsH w 437 [.ref sa] (fun h => h.IsList sa #[]) pre 8 60 (fun r post => ∃ D a b ta tb, r = .ref D ∧ post = (D, srcO a b ta tb 0) :: pre ∧ ∀ p ∈ pre, p.1 < D) := by
  unfold RunsH
  k_fill
  intro p loose mean mg mb dp un gd cn cs a ccd cl outer A₀ base h₀ L m s Q E hS B F X N T hk hd hu ret
  k_steps
  all_goals exact ret _ _ _ _ (by k_asm) (by k_asm) ⟨_, _, _, _, _, rfl, rfl, by first | assumption | exact allLt_mem (by assumption)⟩
theorem c_pool1 {w : World} {pre : List (Addr × Obj)} {sa : Addr} {x : Int} {tx : Tok} {r : List Value} (hr : r.length + 1 ≤ 100000) : RunsH w 437 [.ref sa] (fun h => h.IsList sa (.int x tx :: r).toArray) pre 8 60 (fun r post => ∃ D a b ta tb, r = .ref D ∧ post = (D, srcO a b ta tb 0) :: pre ∧ ∀ p ∈ pre, p.1 < D) := by
  unfold RunsH
  k_fill
  intro p loose mean mg mb dp un gd cn cs a ccd cl outer A₀ base h₀ L m s Q E hS B F X N T hk hd hu ret
  k_steps
  all_goals exact ret _ _ _ _ (by k_asm) (by k_asm) ⟨_, _, _, _, _, rfl, rfl, by first | assumption | exact allLt_mem (by assumption)⟩
theorem pool_args {vs : List Value} {ns : List Int} (h : IntsAre vs ns) : vs = [] ∨ ∃ x tx r, vs = .int x tx :: r := by
  cases vs with
  | nil => exact .inl rfl
  | cons v r =>
    cases ns with
    | nil => cases h
    | cons x ns => obtain ⟨⟨t, rfl⟩, _⟩ := h; exact .inr ⟨_, _, _, rfl⟩
def PoolH (a : Addr) (h : Heap) : Prop := ∃ vs : List Value, h.IsList a vs.toArray ∧ (vs = [] ∨ ∃ x tx r, vs = .int x tx :: r) ∧ vs.length ≤ 100000
theorem ints_len : ∀ {vs : List Value} {ns : List Int}, IntsAre vs ns → vs.length = ns.length
  | _, _, h => by have := h.sizeZ; simp at this; omega
theorem pool_hyp {h : Heap} {a : Addr} {vs : List Value} {ns : List Int} (hL : h.IsList a vs.toArray) (hI : IntsAre vs ns) (hc : ¬ ((63 : Nat) : Int) < ((ns.length : Nat) : Int)) : PoolH a h :=
  ⟨vs, hL, pool_args hI, by have := ints_len hI; omega⟩
theorem c_pool {w : World} {pre : List (Addr × Obj)} {sa : Addr} : RunsH w 437 [.ref sa] (PoolH sa) pre 8 60 (fun r post => ∃ D a b ta tb, r = .ref D ∧ post = (D, srcO a b ta tb 0) :: pre ∧ ∀ p ∈ pre, p.1 < D) := by
  unfold RunsH
  intro p loose mean mg mb dp un gd cn cs a ccd cl outer A₀ base h₀ L m s Q E hS B F X N T hk hd hu ret
  obtain ⟨vs, h1, rfl | ⟨x, tx, r, rfl⟩, h3⟩ := hS
  · exact c_pool0 p loose mean mg mb dp un gd cn cs a ccd cl outer A₀ base h₀ L m s Q E h1 B F X N T hk hd hu ret
  · exact c_pool1 (by simpa using h3) p loose mean mg mb dp un gd cn cs a ccd cl outer A₀ base h₀ L m s Q E h1 B F X N T hk hd hu ret
theorem off_lt {D : Addr} {l : List (Addr × Obj)} (h : ∀ p ∈ l, p.1 < D) : ∀ p ∈ l, p.1 ≠ D := fun p hp => Nat.ne_of_lt (h p hp)
theorem w_L1_0 : True := by
  w_top off
  k_with_none
  k_with "k_all" => (assumption)
  k_with "eval Dict" => (k_here; k_dflt (first
  | (refine' kdn_str ?qq9 ?Fq9 ?Nq9 ?bq9 ?aq9 ?lq9 ?eq9 ?nq9 ?_; (case qq9 => rfl); (case Fq9 => k_asm); (case Nq9 => first | k_asm | exact News.nil); (case bq9 => exact Top.nolimit (by k_asm)); (case aq9 => rfl); (case lq9 => rfl); (case eq9 => exact List.cons_ne_nil _ _); (case nq9 => exact Nat.le_of_ble_eq_true rfl))
  | (refine' kdn_int ?qq9 ?Fq9 ?Nq9 ?bq9 ?aq9 ?lq9 ?eq9 ?nq9 ?_; (case qq9 => rfl); (case Fq9 => k_asm); (case Nq9 => first | k_asm | exact News.nil); (case bq9 => exact Top.nolimit (by k_asm)); (case aq9 => rfl); (case lq9 => rfl); (case eq9 => exact List.cons_ne_nil _ _); (case nq9 => exact Nat.le_of_ble_eq_true rfl))); intro d' h' o' F' N' l1 lo' hd'; (try k_lt l1))
  k_with "eval Dict nil nil" => (k_here; k_dflt (refine' newDict_K ?k1q9 ?k2q9 (TopRead.nolimit (by k_asm)) ?_; (case k1q9 => k_asm); (case k2q9 => k_asm); k_whole); intro d' h' o' F' N' l1 lo' hs' fs' hi' fi'; (try k_lt l1); (try k_sweep))
  k_with "ktr_room" => (refine room_of ?_; (try simp +zetaDelta only [depth_under_make, depth_under_kw, depth_in1, depth_deeper]); (try dsimp only [ktrTop]); (first | exact rl1 (by assumption) (by exact rfl) | exact rl2 (by assumption) (by exact rfl) | exact rl3 (by assumption) (by exact rfl) | omega))
  k_with "ktr_enter" => (refine' code_def ?k1q9 ?k2q9 ?k3q9 ?k4q9 ?k5q9 ?kAq9 ?kFq9 ?kKq9 ?k6q9 ?k7q9 ?k8q9 ?k9q9 ?kBq9 ?_ ?c2q9 ?c3q9 ?c4q9 ?c5q9; (case kAq9 => exact rfl); (case kFq9 => exact rfl); (case kKq9 => first | exact rfl | assumption); (case k1q9 => k_asm); (case k2q9 => k_asm); (case k3q9 => k_asm); (case k4q9 => k_asm); (case k5q9 => k_asm); (case k6q9 => k_is); (case k7q9 => k_is); (case k8q9 => ktr_room); (case k9q9 => first | exact BindsTo.of_eq rfl | exact binds_K (by k_in) rfl (by k_is) rfl rfl rfl); (case c5q9 => decide); (case kBq9 => exact locs rfl); (case c2q9 => exact rfl); (case c3q9 => exact rfl); (case c4q9 => exact rfl); k_whole; intro g' L' h' FG' F' N' B' X' T'; (try dsimp only); (try k_fold); (try (refine let_enter ?_; intro M1 A1)))
  k_with "call ref" => (k_here; k_dflt (first
  | (refine wpAny_call ?_; ktr_enter)
  | (refine' call_cls0 ?k1q9 ?k2q9 ?k3q9 ?k4q9 ?k5q9 ?_; (case k1q9 => k_asm); (case k2q9 => k_asm); (case k3q9 => k_asm); (case k4q9 => k_is); (case k5q9 => k_is); k_whole; intro x' d' h' F' N' l1 l2; (try k_lt l1); (try k_lt2 l2); (try k_sweep))
  | (refine' call_cls ?k1q9 ?k2q9 ?k3q9 ?k4q9 ?k5q9 ?k6q9 ?_; (case k1q9 => k_asm); (case k2q9 => k_asm); (case k3q9 => k_asm); (case k4q9 => k_is); (case k5q9 => k_is); (case k6q9 => k_is); k_whole; intro x' d' h' F' N' l1 l2; (try k_lt l1); (try k_lt2 l2); (try k_sweep); ktr_enter)
  | (refine' call_meth ?k1q9 ?k2q9 ?_; (case k1q9 => k_asm); (case k2q9 => k_mem); k_whole; ktr_enter)))
  k_with "ktr_units" => ((try simp +zetaDelta only [units_in1, units_deeper, Around.mark_units, units_make]); (try dsimp only [ktrTop]); first | exact rl1 (by assumption) (by exact rfl) | exact rl2 (by assumption) (by exact rfl) | exact rl3 (by assumption) (by exact rfl) | omega | ((show _ < (9900 : Nat)); omega))
  k_with "call type:frozenset" => (k_here; k_dflt (refine' fz_call ?Fq9 ?Nq9 ?mq9 ?dq9 ?zq9 ?_; (case Fq9 => k_asm); (case Nq9 => k_asm); (case mq9 => k_mem); (case dq9 => k_asm); (case zq9 => k_asm)); intro D' h' tq' led' F' N' l1; (try k_lt l1))
  k_with "compareOp In int ref" => (k_here; k_dflt (refine' fz_in ?Nq9 ?mq9 ?_; (case Nq9 => k_asm); (case mq9 => k_mem)))
  k_with "call type:list" => (k_here; (with_reducible show wpAny _ _ (call (Value.type "list") [Value.ref _]) _ _ _); k_dflt (refine' list_copyK ?k1q9 ?k2q9 ?k3q9 ?_ ?zq9; (case k1q9 => k_asm); (case k2q9 => k_asm); (case k3q9 => exact News.isList (by k_asm) (by k_mem)); (case zq9 => first | exact Nat.le_of_ble_eq_true rfl | omega); k_whole); intro D' c' h' F' N' l1; (try k_lt l1); (try k_sweep))
  k_with "k_mem" => (with_reducible kcf_m)
  k_with "k_get" => (with_reducible assumption)
  k_with "subscriptTail Name Slice ref ref" => (k_here; (with_reducible show wpAny _ _ (subscriptTail _ _ (Value.ref _) (Value.ref _)) _ _ _); k_dflt (first
  | (refine' tup_head ?Fq9 ?Nq9 ?mq9 ?h0q9 ?bq9 ?eq9 ?_ ?sq9 ?tq9 ?zq9; (case Fq9 => k_asm); (case Nq9 => k_asm); (case mq9 => k_mem); (case h0q9 => decide); (case bq9 => first | exact Nat.le_of_ble_eq_true rfl | (simp only [List.length_cons]; omega)); (case eq9 => first | exact tk1 | exact dp1 | exact dp2 | exact rfl); (case sq9 => with_unfolding_all rfl); (case tq9 => kmk_pure); (case zq9 => first | exact Nat.le_of_ble_eq_true rfl | (simp only [List.length_cons]; omega)))
  | (refine' tup_rest ?Fq9 ?Nq9 ?mq9 ?h0q9 ?bq9 ?eq9 ?_ ?sq9 ?tq9 ?zq9; (case Fq9 => k_asm); (case Nq9 => k_asm); (case mq9 => k_mem); (case h0q9 => decide); (case bq9 => first | exact Nat.le_of_ble_eq_true rfl | (simp only [List.length_cons]; omega)); (case eq9 => first | exact tk1 | exact dp1 | exact dp2 | exact rfl); (case sq9 => with_unfolding_all rfl); (case tq9 => kmk_pure); (case zq9 => first | exact Nat.le_of_ble_eq_true rfl | (simp only [List.length_cons]; omega)))); intro D' h' F' N' l1; (try k_lt l1); (try k_sweep))
  k_with "subscriptTail" => (k_here; (with_reducible show wpAny _ _ (subscriptTail _ _ (Value.ref _) (Value.int _ _)) _ _ _); k_dflt (first
  | (refine' list_tailL ?Nq9 ?mq9 ?aq9 ?bq9 ?xq9 ?_ ?sq9; (case Nq9 => k_asm); (case mq9 => k_mem); (case aq9 => decide); (case bq9 => decide); (case xq9 => first | exact rfl | assumption); (case sq9 => with_unfolding_all rfl))
  | (refine' dict_tail (knd := intKind _ _) ?Nq9 ?mq9 ?dq9 ?kq9 ?vq9 ?_ ?sq9; (case Nq9 => k_asm); (case mq9 => k_mem); (case dq9 => with_reducible assumption); (case kq9 => exact intKind_is _ _ _ _); (case vq9 => first | with_reducible assumption | exact rfl); (case sq9 => with_unfolding_all rfl))))
  k_with "subscriptTail" => (k_here; (with_reducible show wpAny _ _ (subscriptTail _ _ (Value.ref _) (Value.str _ _)) _ _ _); k_dflt
  (refine' dict_tail (knd := strKind _ _) ?Nq9 ?mq9 ?dq9 ?kq9 ?vq9 ?_ ?sq9; (case Nq9 => k_asm); (case mq9 => k_mem); (case dq9 => with_reducible assumption); (case kq9 => exact strKind_is _ _ _ _); (case vq9 => exact rfl); (case sq9 => with_unfolding_all rfl)))
  k_with "getItem ref str" => (k_here; k_dflt
  (refine' dict_get (knd := strKind _ _) ?Nq9 ?mq9 ?dq9 ?kq9 ?vq9 ?_; (case Nq9 => k_asm); (case mq9 => k_mem); (case dq9 => with_reducible assumption); (case kq9 => exact strKind_is _ _ _ _); (case vq9 => exact rfl)))
  k_with "compareOp In int ref" => (k_here; k_dflt (refine' fz_in' ?Nq9 ?mq9 ?bq9 ?_; (case Nq9 => k_asm); (case mq9 => k_mem); (case bq9 => first | assumption | exact rfl)))
  k_with "binaryOp Add ref ref" => (k_here; k_dflt (refine' tup_add ?Fq9 ?Nq9 ?aq9 ?bq9 ?vq9 ?wq9 ?zq9 ?eq9 ?_; (case Fq9 => k_asm); (case Nq9 => k_asm); (case aq9 => k_mem); (case bq9 => k_mem); (case vq9 => first | exact List.cons_ne_nil _ _ | assumption); (case wq9 => first | exact List.cons_ne_nil _ _ | assumption); (case zq9 => first | exact Nat.le_of_ble_eq_true rfl | (simp only [List.length_cons, List.length_nil]; omega)); (case eq9 => first | exact ap1 | exact ap2 | exact rfl)); intro D' h' F' N' l1; (try k_lt l1); (try k_sweep))
  k_with "newTuple" => (k_here; k_dflt (refine' kup_newTuple ?Fq9 ?Nq9 ?_ ?zq9; (case Fq9 => k_asm); (case Nq9 => k_asm); (case zq9 => kmk_size)); intro D' h' F' N' l1; (try k_sweep))
  k_with "k_offL" => (first | omega | ((try simp only [List.length_append, List.length_cons, List.length_nil]); omega))
  k_with "subscriptTail" => (k_here; (with_reducible show wpAny _ _ (subscriptTail _ _ (Value.ref _) (Value.int 0 _)) _ _ _); k_dflt (refine' tin_sub0 ?Fq9 ?Xq9 ?Nq9 ?Tq9 ?_ ?sq9; (case Fq9 => k_asm); (case Xq9 => k_asm); (case Nq9 => k_asm); (case Tq9 => (refine TIn.up (by assumption) ?_; kat_tups)); (case sq9 => with_unfolding_all rfl)); intro t0')
  k_with "subscriptTail" => (k_here; (with_reducible show wpAny _ _ (subscriptTail _ _ (Value.ref _) (Value.int _ _)) _ _ _); k_dflt (refine' tup_item ?Nq9 ?mq9 ?aq9 ?bq9 ?xq9 ?_ ?sq9; (case Nq9 => k_asm); (case mq9 => k_mem); (case aq9 => decide); (case bq9 => decide); (case xq9 => exact rfl); (case sq9 => with_unfolding_all rfl)))
  k_with "compareOp NotEq ref ref" => (k_here; k_dflt (refine' cmp_ne (r := false) (n := 12) (k := 12) ?Fq9 ?Xq9 ?Nq9 ?aq9 ?bq9 ?oaq9 ?obq9 ?hnq9 ?hkq9 ?hrq9 ?uq9 ?_; (case Fq9 => k_asm); (case Xq9 => k_asm); (case Nq9 => k_asm); (case aq9 => kqd_in); (case bq9 => kqd_in); (case hrq9 => exact eqv_same _); (case oaq9 => exact ⟨by decide +kernel, by decide +kernel⟩); (case obq9 => exact ⟨by decide +kernel, by decide +kernel⟩); (case hnq9 => decide); (case hkq9 => decide); (case uq9 => ktr_units)))
  k_with "call ref" => (k_here; (with_reducible show wpAny _ _ (call (Value.ref 528) _) _ _ _); k_dflt (refine' runs_use (c_right ?Pq9 ?zq9) ?Bq9 ?Fq9 ?Xq9 ?Nq9 ?Tq9 ?kq9 ?dq9 ?uq9 ?_; (case Bq9 => k_asm); (case Fq9 => k_asm); (case Xq9 => k_asm); (case Nq9 => k_asm); (case Pq9 => first | (refine PlIn.mono ?_ (by assumption); assumption) | (refine' PlIn.fld ?mq9 TyIn.int ?rq9; (case mq9 => k_mem); (case rq9 => (refine' PlIn.idx ?mq9 TyIn.pair ?rq9 ?eq9 ?nq9; (case mq9 => k_mem); (case rq9 => (refine' PlIn.glob ?mq9 ?tq9; (case mq9 => k_mem); (case tq9 => (refine' TyIn.arr ?mq9; (case mq9 => k_mem))))); (case eq9 => exact rfl); (case nq9 => (refine' NumIn.cst ?mq9; (case mq9 => k_mem))))))); (case zq9 => first | omega | (simp only [Pl.size]; omega)); (case Tq9 => k_asm); (case kq9 => exact rfl); (case dq9 => first | exact Nat.le_of_ble_eq_true rfl | ((try simp +zetaDelta only [depth_under_make, depth_under_kw, depth_in1, depth_deeper]); (try dsimp only [ktrTop]); (first | exact rl1 (by assumption) (by exact rfl) | exact rl2 (by assumption) (by exact rfl) | exact rl3 (by assumption) (by exact rfl) | omega))); (case uq9 => first | exact Nat.le_of_ble_eq_true rfl | ktr_units); intro r9 post9 h9 tk9 F' N' P9; have e9 : r9 = Value.bool true := P9; clear P9; subst e9; (try dsimp only); (try k_sweep)))
  k_with "call ref" => (k_here; (with_reducible show wpAny _ _ (call (Value.ref 479) _) _ _ _); k_dflt (refine' runs_use (c_place _ ?hoq9) ?Bq9 ?Fq9 ?Xq9 ?Nq9 ?Tq9 ?kq9 ?dq9 ?uq9 ?_; (case Bq9 => k_asm); (case Fq9 => k_asm); (case Xq9 => k_asm); (case Nq9 => k_asm); (case hoq9 => first | assumption | k_all); (case Tq9 => k_asm); (case kq9 => exact rfl); (case dq9 => first | exact Nat.le_of_ble_eq_true rfl | ((try simp +zetaDelta only [depth_under_make, depth_under_kw, depth_in1, depth_deeper]); (try dsimp only [ktrTop]); (first | exact rl1 (by assumption) (by exact rfl) | exact rl2 (by assumption) (by exact rfl) | exact rl3 (by assumption) (by exact rfl) | omega))); (case uq9 => first | exact Nat.le_of_ble_eq_true rfl | ktr_units); intro r9 post9 h9 tk9 F' N' P9; revert P9; (refine ex2 ?_); intro p9 rest9 P9; revert P9; (refine an4 ?_); intro up9 sub9 P9 hz9; (try dsimp only); (try k_sweep)))
  k_with "call ref" => (k_here; (with_reducible show wpAny _ _ (call (Value.ref 437) _) _ _ _); k_dflt (refine' runsH_use c_pool ?hHq9 ?Bq9 ?Fq9 ?Xq9 ?Nq9 ?Tq9 ?kq9 ?dq9 ?uq9 ?_; (case Bq9 => k_asm); (case Fq9 => k_asm); (case Xq9 => k_asm); (case Nq9 => k_asm); (case hHq9 => assumption); (case Tq9 => k_asm); (case kq9 => exact rfl); (case dq9 => first | exact Nat.le_of_ble_eq_true rfl | ((try simp +zetaDelta only [depth_under_make, depth_under_kw, depth_in1, depth_deeper]); (try dsimp only [ktrTop]); (first | exact rl1 (by assumption) (by exact rfl) | exact rl2 (by assumption) (by exact rfl) | exact rl3 (by assumption) (by exact rfl) | omega))); (case uq9 => first | exact Nat.le_of_ble_eq_true rfl | ktr_units); intro r9 post9 h9 tk9 F' N' P9; revert P9; (refine ex5 ?_); intro D9 a9 b9 ta9 tb9 P9; revert P9; (refine an3 ?_); intro e9 e8 l9; subst e9; (replace N' := newsEq N' e8); (first | clear e8 post9 | subst e8); have o9 := off_lt l9; (try dsimp only); (try k_sweep)))
  k_with "eval Call" => (k_fold; (try (refine tok_gen ?_; intro tkz)))
  k_with "eval Call Attribute" => (k_fold; (try (refine tok_gen ?_; intro tkz)))
  k_with "eval Tuple" => (k_fold; (try (refine tok_gen ?_; intro tkz)))
  trivial
theorem tryit : PySem.Challenge.rw_xm0177_01.Holds := by
  refine hd ?_
  k_go0
  all_goals try k_fold
  have HP := pool_hyp (by assumption) (by assumption) (by assumption)
  k_steps

end Mine
theorem PySem.Challenge.cw_xm0177_01_holds : PySem.Challenge.rw_xm0177_01.Holds := by
  exact Mine.tryit
