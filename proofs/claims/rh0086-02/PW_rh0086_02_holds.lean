import PyProof.Rows.All
import Wide.All
import OpenK.AllK
import Wide.FinOn
import Lean
import PySem.Challenge.RW_rh0086_02
open PySem PySem.W PyProof.Rows
set_option Elab.async false
set_option linter.all false
set_option maxRecDepth 100000
set_option maxHeartbeats 8000000
/- The rows below only hold names. The head (open_top) would lay a twin of each object of the top under these names, with proofs that fill some 60 MiB of the compiled file;
   it lays none where the name stands already, and does without. Nothing below leans on them. -/
namespace PySem.W.Fast
theorem tw7500587591081536576 : True := trivial
theorem tw243663344248803488 : True := trivial
theorem tw6993744684613802176 : True := trivial
theorem tw10152621448721563872 : True := trivial
theorem tw8786637474660748672 : True := trivial
theorem tw1847015944262239680 : True := trivial
theorem tw2202587092713263616 : True := trivial
theorem tw6739559834989389440 : True := trivial
theorem tw1440449479773216416 : True := trivial
theorem tw1606663048381827872 : True := trivial
theorem tw17351191209823621984 : True := trivial
theorem tw16443448646656582528 : True := trivial
theorem tw8878733128106033088 : True := trivial
theorem tw749806358574495712 : True := trivial
theorem tw2588035049597668320 : True := trivial
theorem tw12278562162485951521 : True := trivial
theorem tw14061069349944764481 : True := trivial
theorem tw9442293803324869729 : True := trivial
theorem tw10614071333100689537 : True := trivial
theorem tw11663237835168189569 : True := trivial
theorem tw5695836358196143265 : True := trivial
theorem tw1322643694146065761 : True := trivial
theorem tw3027984789754332513 : True := trivial
theorem tw16182577273971273153 : True := trivial
theorem tw5674681853267831233 : True := trivial
theorem tw6315128043074219489 : True := trivial
theorem tw8807130565223074305 : True := trivial
theorem tw7268510711404746241 : True := trivial
theorem tw7492026002593876609 : True := trivial
theorem tw680310736526724801 : True := trivial
theorem tw5537673159833454337 : True := trivial
theorem tw8362740219956796321 : True := trivial
theorem tw274338799473619873 : True := trivial
theorem tw14941917565248271265 : True := trivial
theorem tw6111721383406663746 : True := trivial
theorem tw4095678594929373378 : True := trivial
theorem tw15054869081191907618 : True := trivial
theorem tw15779057066483663234 : True := trivial
theorem tw12116256932595726786 : True := trivial
theorem tw7782782995100696002 : True := trivial
theorem tw10994451879896646146 : True := trivial
theorem tw15736756796802622178 : True := trivial
theorem tw467382080825676738 : True := trivial
theorem tw1862349652907858882 : True := trivial
theorem tw16159944521847061571 : True := trivial
theorem tw275920659763805315 : True := trivial
theorem tw11170676393827580067 : True := trivial
theorem tw6073922509236996291 : True := trivial
theorem tw16320881741043214723 : True := trivial
theorem tw3255598963425657283 : True := trivial
theorem tw16404597955511392739 : True := trivial
theorem tw15539755025566622179 : True := trivial
theorem tw10121561649171045059 : True := trivial
theorem tw4692409156660726499 : True := trivial
theorem tw2099979637536478051 : True := trivial
theorem tw1972159742212597635 : True := trivial
theorem tw18244753372114609059 : True := trivial
theorem tw4738931826608757796 : True := trivial
theorem tw8227662941115451428 : True := trivial
theorem tw6103199501573652548 : True := trivial
theorem tw11078112094332292196 : True := trivial
theorem tw17525589593563460772 : True := trivial
theorem tw7341535745766251716 : True := trivial
theorem tw9330206362096546020 : True := trivial
theorem tw15738396204737494372 : True := trivial
theorem tw5768642776913559972 : True := trivial
theorem tw7669458518127205860 : True := trivial
theorem tw8128722599233743364 : True := trivial
theorem tw15541856928187398756 : True := trivial
theorem tw7235716266848081540 : True := trivial
theorem tw3238042451330614916 : True := trivial
theorem tw16495423403366040292 : True := trivial
theorem tw7911478954348596996 : True := trivial
theorem tw16799815717354283812 : True := trivial
theorem tw17672516987269588804 : True := trivial
theorem tw5311246213552534404 : True := trivial
theorem tw16820226191050210405 : True := trivial
theorem tw13185285065373766821 : True := trivial
theorem tw12875928608121541893 : True := trivial
theorem tw4504112244552037669 : True := trivial
theorem tw2096682463239169349 : True := trivial
theorem tw16657359023816254821 : True := trivial
theorem tw11088416168263975365 : True := trivial
theorem tw17015820144722938309 : True := trivial
theorem tw1024966126912534981 : True := trivial
theorem tw10717143513604201957 : True := trivial
theorem tw5049590737225002661 : True := trivial
theorem tw15852628662175894245 : True := trivial
theorem tw3258629634280281829 : True := trivial
theorem tw11883599278462638853 : True := trivial
theorem tw10999857472448039813 : True := trivial
theorem tw13275329130467991429 : True := trivial
theorem tw14124016367248902053 : True := trivial
theorem tw13003458740162155461 : True := trivial
theorem tw9718760078613066822 : True := trivial
theorem tw14121695997198519398 : True := trivial
theorem tw7197901339553399974 : True := trivial
theorem tw16450986356865583270 : True := trivial
theorem tw4967479949594784966 : True := trivial
theorem tw2453223699461374150 : True := trivial
theorem tw527064064423164102 : True := trivial
theorem tw2392293967729739078 : True := trivial
theorem tw13743873167416187206 : True := trivial
theorem tw8104189617729558854 : True := trivial
theorem tw11170042982858211686 : True := trivial
theorem tw3441768936476675526 : True := trivial
theorem tw9575159808708712998 : True := trivial
theorem tw17331498680024398374 : True := trivial
theorem tw5869198990537086630 : True := trivial
theorem tw12400353900496819974 : True := trivial
theorem tw5734853696273487654 : True := trivial
theorem tw4431815927470726950 : True := trivial
theorem tw6603754386048208710 : True := trivial
theorem tw17193120224320150374 : True := trivial
theorem tw11830027797384549222 : True := trivial
theorem tw6052139682653267814 : True := trivial
theorem tw16840208150001077126 : True := trivial
theorem tw306667142038116230 : True := trivial
theorem tw9778404152258194310 : True := trivial
theorem tw10048093313606881222 : True := trivial
theorem tw7966207963683043270 : True := trivial
theorem tw12840622861032253414 : True := trivial
theorem tw16425298901466522631 : True := trivial
theorem tw6969091470012365863 : True := trivial
theorem tw10803933374725753895 : True := trivial
theorem tw571775260467100807 : True := trivial
theorem tw15767741867680702599 : True := trivial
theorem tw8083902901067073767 : True := trivial
theorem tw870630969845155111 : True := trivial
theorem tw16845519700729367847 : True := trivial
theorem tw9915839184796910983 : True := trivial
theorem tw5601509807700682215 : True := trivial
theorem tw7771976106093402599 : True := trivial
theorem tw12191198809224328711 : True := trivial
theorem tw12106906726595137063 : True := trivial
theorem tw15861732391631088295 : True := trivial
theorem tw2888589659560556327 : True := trivial
theorem tw15488062566285547303 : True := trivial
theorem tw13968457070969959303 : True := trivial
theorem tw15346241232588919719 : True := trivial
theorem tw16976562285777589191 : True := trivial
theorem tw17794691175606792167 : True := trivial
theorem tw8453593540028354664 : True := trivial
theorem tw12175518816343844008 : True := trivial
theorem tw5328925033679269064 : True := trivial
theorem tw7403983089578934472 : True := trivial
theorem tw2983188307561208104 : True := trivial
theorem tw16307350964742961480 : True := trivial
theorem tw7737113935412443528 : True := trivial
theorem tw8566803344608710056 : True := trivial
theorem tw9791126670147439016 : True := trivial
theorem tw6780030872462246376 : True := trivial
theorem tw9815775688518388296 : True := trivial
theorem tw2832251493475897960 : True := trivial
theorem tw14176893724586605256 : True := trivial
theorem tw5085067154742965960 : True := trivial
theorem tw12499609111915790056 : True := trivial
theorem tw10664663343786051336 : True := trivial
theorem tw15902760612861522696 : True := trivial
theorem tw4251419009769004840 : True := trivial
theorem tw215433823522831240 : True := trivial
theorem tw1895080516090502088 : True := trivial
theorem tw13364325149952187336 : True := trivial
theorem tw16851556783530398761 : True := trivial
theorem tw5815729500591028265 : True := trivial
theorem tw15398770056563163305 : True := trivial
theorem tw103120417403022537 : True := trivial
theorem tw4074175174473926889 : True := trivial
theorem tw11721727961400370473 : True := trivial
theorem tw11108868942481843529 : True := trivial
theorem tw14559213943094512233 : True := trivial
theorem tw12537555847757967017 : True := trivial
theorem tw13452227027307307689 : True := trivial
theorem tw7464947144171586249 : True := trivial
theorem tw4282415303819441865 : True := trivial
theorem tw13289040701079077577 : True := trivial
theorem tw14485915700441674537 : True := trivial
theorem tw17873656263065613097 : True := trivial
theorem tw5882297459990681385 : True := trivial
theorem tw11891278349009869769 : True := trivial
theorem tw7166647994740806666 : True := trivial
theorem tw17748629757429682378 : True := trivial
theorem tw7937604137839590762 : True := trivial
theorem tw2290409166098480522 : True := trivial
theorem tw13374440302449534378 : True := trivial
theorem tw10016950477641552298 : True := trivial
theorem tw3837378597496811978 : True := trivial
theorem tw12214412710662358730 : True := trivial
theorem tw1531611267655123754 : True := trivial
theorem tw9179056844488027050 : True := trivial
theorem tw1548932322616693738 : True := trivial
theorem tw7618266223953841163 : True := trivial
theorem tw1249431104018993195 : True := trivial
theorem tw2101701046877625515 : True := trivial
theorem tw2582784750921934027 : True := trivial
theorem tw11392767086316366059 : True := trivial
theorem tw1011411440787598571 : True := trivial
theorem tw12669124722067199243 : True := trivial
theorem tw13087908546863346987 : True := trivial
theorem tw10691683682589205803 : True := trivial
theorem tw10415839236277037355 : True := trivial
theorem tw2056523042086390091 : True := trivial
theorem tw8566502676610132363 : True := trivial
theorem tw10390921473351474571 : True := trivial
theorem tw1209602908113884683 : True := trivial
theorem tw10384586171469082251 : True := trivial
theorem tw5995311689465595755 : True := trivial
theorem tw12049762476597661579 : True := trivial
theorem tw17364177635886269355 : True := trivial
theorem tw4712089394453546955 : True := trivial
theorem tw309880282853577707 : True := trivial
theorem tw6299411780520589388 : True := trivial
theorem tw3211945892830780620 : True := trivial
theorem tw11076442547630556428 : True := trivial
theorem tw14799744787698577708 : True := trivial
theorem tw6948502723170309548 : True := trivial
theorem tw6762013187132859820 : True := trivial
theorem tw9265898090031663564 : True := trivial
theorem tw9375251200316195340 : True := trivial
theorem tw589347346162312076 : True := trivial
theorem tw12313864741346570156 : True := trivial
theorem tw16549592372470195180 : True := trivial
theorem tw14307637407811319885 : True := trivial
theorem tw7817848037633701997 : True := trivial
theorem tw14163655391994022061 : True := trivial
theorem tw16857849182304791789 : True := trivial
theorem tw12904963297975945485 : True := trivial
theorem tw500109374316033453 : True := trivial
theorem tw12048489532614467149 : True := trivial
theorem tw16688325376107864685 : True := trivial
theorem tw5209974521209553645 : True := trivial
theorem tw11225694069386639117 : True := trivial
theorem tw9231669725247403789 : True := trivial
theorem tw7992482522059006797 : True := trivial
theorem tw3427588272803159917 : True := trivial
theorem tw4807046600228296910 : True := trivial
theorem tw12621591647174897902 : True := trivial
theorem tw7455660880919208206 : True := trivial
theorem tw13792877432734409070 : True := trivial
theorem tw14623880417784732046 : True := trivial
theorem tw4544127192446218638 : True := trivial
theorem tw15622374781561002382 : True := trivial
theorem tw8648968750625468846 : True := trivial
theorem tw16599811923469090286 : True := trivial
theorem tw729423550210768366 : True := trivial
theorem tw13992971861710736974 : True := trivial
theorem tw15041193556432128622 : True := trivial
theorem tw484333226229919406 : True := trivial
theorem tw6381347548881000110 : True := trivial
theorem tw14030725226820297422 : True := trivial
theorem tw11244389004111319822 : True := trivial
theorem tw10077056631137168174 : True := trivial
theorem tw9353924536602109806 : True := trivial
theorem tw13143670031536263054 : True := trivial
theorem tw9621182143071332334 : True := trivial
theorem tw14939596436390246511 : True := trivial
theorem tw6258315780970824847 : True := trivial
theorem tw2168537877553007759 : True := trivial
theorem tw13434342175801638063 : True := trivial
theorem tw14698195923333287183 : True := trivial
theorem tw10677337427378679183 : True := trivial
theorem tw15874219176001466895 : True := trivial
theorem tw7791958874781025839 : True := trivial
theorem tw2215212553688249903 : True := trivial
theorem tw6778710746357138063 : True := trivial
theorem tw15986116799888172687 : True := trivial
theorem tw9894466457075330703 : True := trivial
theorem tw7611711902220781263 : True := trivial
theorem tw8742804280292036335 : True := trivial
theorem tw9234007660320549647 : True := trivial
theorem tw1663528304881464079 : True := trivial
theorem tw7058928299740353327 : True := trivial
theorem tw7562306106401819503 : True := trivial
theorem tw378550751763393616 : True := trivial
theorem tw614332362222257264 : True := trivial
theorem tw14283026597016706224 : True := trivial
theorem tw2162819973579780368 : True := trivial
theorem tw9513164176345535792 : True := trivial
theorem tw1094655966922395088 : True := trivial
theorem tw3751411100736380400 : True := trivial
theorem tw9206307310182583792 : True := trivial
theorem tw12420136213447056912 : True := trivial
theorem tw17422769923392640592 : True := trivial
theorem tw8087413270868275824 : True := trivial
theorem tw2004168625807046288 : True := trivial
theorem tw3391689044532647632 : True := trivial
theorem tw138943776187205424 : True := trivial
theorem tw10021783690704526128 : True := trivial
theorem tw16547173009432816592 : True := trivial
theorem tw14453202229894450289 : True := trivial
theorem tw16989468009004568721 : True := trivial
theorem tw4686549672750102801 : True := trivial
theorem tw6724939009719223569 : True := trivial
theorem tw13211231036495095185 : True := trivial
theorem tw9187616323562090993 : True := trivial
theorem tw10297342272035299857 : True := trivial
theorem tw3430014570225903185 : True := trivial
theorem tw9095620353143695089 : True := trivial
theorem tw231982154113449745 : True := trivial
theorem tw14305346713786179441 : True := trivial
theorem tw5522332878232546289 : True := trivial
theorem tw4908170195313144978 : True := trivial
theorem tw1558936252247787698 : True := trivial
theorem tw4338891620628518066 : True := trivial
theorem tw4527472021202001074 : True := trivial
theorem tw3685788835352295634 : True := trivial
theorem tw2678726404176047314 : True := trivial
theorem tw901865615172724978 : True := trivial
theorem tw367464910944199954 : True := trivial
theorem tw9964702816479295858 : True := trivial
theorem tw15244627626297012594 : True := trivial
theorem tw6759193457854617010 : True := trivial
theorem tw3383856490965211762 : True := trivial
theorem tw3099821615506438802 : True := trivial
theorem tw10168505651066485426 : True := trivial
theorem tw3922426036340529842 : True := trivial
theorem tw15336922964789622482 : True := trivial
theorem tw1506571100971582194 : True := trivial
theorem tw4384476719501661938 : True := trivial
theorem tw5414707707875876626 : True := trivial
theorem tw4408038080787824434 : True := trivial
theorem tw1807565853629799218 : True := trivial
theorem tw17921927655282371378 : True := trivial
theorem tw750293985023426450 : True := trivial
theorem tw2876044661032437779 : True := trivial
theorem tw12783904708225343603 : True := trivial
theorem tw5178104872466556019 : True := trivial
theorem tw17662693732598486163 : True := trivial
theorem tw14073603831633712403 : True := trivial
theorem tw17003741913060695315 : True := trivial
theorem tw6131200950970066259 : True := trivial
theorem tw8136445280404912499 : True := trivial
theorem tw9168695422370938259 : True := trivial
theorem tw9582530341377887699 : True := trivial
theorem tw15567935181162026483 : True := trivial
theorem tw16853669795659778707 : True := trivial
theorem tw8012984703555813043 : True := trivial
theorem tw9808581503913936659 : True := trivial
theorem tw7398124388240533267 : True := trivial
theorem tw3043239091418105683 : True := trivial
theorem tw12777590992564360179 : True := trivial
theorem tw15071567464950172948 : True := trivial
theorem tw559823664893610356 : True := trivial
theorem tw8029408618654795284 : True := trivial
theorem tw1905680622714880532 : True := trivial
theorem tw11538787465744947764 : True := trivial
theorem tw17069124595327243892 : True := trivial
theorem tw6085934384996567700 : True := trivial
theorem tw5426658293969481460 : True := trivial
theorem tw2971687877482836820 : True := trivial
theorem tw3530158694663516148 : True := trivial
theorem tw7996082433570673652 : True := trivial
theorem tw8688188789088706548 : True := trivial
theorem tw3586913245994667125 : True := trivial
theorem tw2085100319738330229 : True := trivial
theorem tw5359403656491944117 : True := trivial
theorem tw4286900075211669749 : True := trivial
theorem tw14080563814489860405 : True := trivial
theorem tw12206997889999840629 : True := trivial
theorem tw10978910516475110933 : True := trivial
theorem tw8185104845950370325 : True := trivial
theorem tw16275004173123882549 : True := trivial
theorem tw17600276747614548629 : True := trivial
theorem tw5529762197347771189 : True := trivial
theorem tw16174748073121760213 : True := trivial
theorem tw13963636055329513494 : True := trivial
theorem tw9645328059021944854 : True := trivial
theorem tw5545377019861128310 : True := trivial
theorem tw4271077927357479030 : True := trivial
theorem tw18180913512556001398 : True := trivial
theorem tw1519031174946503894 : True := trivial
theorem tw11867821642345178422 : True := trivial
theorem tw16496274528694379990 : True := trivial
theorem tw2239479065312798262 : True := trivial
theorem tw9582839256105129590 : True := trivial
theorem tw762397060757850838 : True := trivial
theorem tw12461157954317285142 : True := trivial
theorem tw17406759916030343030 : True := trivial
theorem tw5332337569711990 : True := trivial
theorem tw12255425324152495062 : True := trivial
theorem tw13450954708811672534 : True := trivial
theorem tw9257552878825252983 : True := trivial
theorem tw14293785076300786839 : True := trivial
theorem tw2254577367907766487 : True := trivial
theorem tw17324409762073711863 : True := trivial
theorem tw13010554816669114679 : True := trivial
theorem tw462584022244036951 : True := trivial
theorem tw2930195151094397271 : True := trivial
theorem tw17952396009970954647 : True := trivial
theorem tw62832931099106807 : True := trivial
theorem tw5921249261701904983 : True := trivial
theorem tw14709500462421184119 : True := trivial
theorem tw18125686264526472823 : True := trivial
theorem tw1842619091779984055 : True := trivial
theorem tw2075161996182466263 : True := trivial
theorem tw5029145343472509719 : True := trivial
theorem tw708365667176274711 : True := trivial
theorem tw10592240006229066711 : True := trivial
theorem tw10247916988791279575 : True := trivial
theorem tw16698262265299365912 : True := trivial
theorem tw16297977178348406840 : True := trivial
theorem tw13049458019185518680 : True := trivial
theorem tw13807990944732695768 : True := trivial
theorem tw17338194467324894552 : True := trivial
theorem tw7666458099729691032 : True := trivial
theorem tw5729282011751311800 : True := trivial
theorem tw5565423125327936952 : True := trivial
theorem tw2592144024393591256 : True := trivial
theorem tw12005037638204422616 : True := trivial
theorem tw7130831719770677848 : True := trivial
theorem tw8240049711649985112 : True := trivial
theorem tw1302209148674729624 : True := trivial
theorem tw17456549364167615128 : True := trivial
theorem tw2671098256221521592 : True := trivial
theorem tw6779430454384416536 : True := trivial
theorem tw12791473286119108408 : True := trivial
theorem tw4952462669079303000 : True := trivial
theorem tw5149240898237614968 : True := trivial
theorem tw12982805693107917720 : True := trivial
theorem tw4557906531393888152 : True := trivial
theorem tw12112176901685981112 : True := trivial
theorem tw1425117931270152152 : True := trivial
theorem tw7663842659201971225 : True := trivial
theorem tw17875335335993275449 : True := trivial
theorem tw14606073543494033465 : True := trivial
theorem tw10179458526708093177 : True := trivial
theorem tw17787713927646049529 : True := trivial
theorem tw18154783932576284953 : True := trivial
theorem tw9477285052489642297 : True := trivial
theorem tw7189326110707720505 : True := trivial
theorem tw898038551002532185 : True := trivial
theorem tw844960431908598201 : True := trivial
theorem tw601876431183167033 : True := trivial
theorem tw12079761975539632697 : True := trivial
theorem tw17364085380614864537 : True := trivial
theorem tw3238896536888007353 : True := trivial
theorem tw11156889716475858681 : True := trivial
theorem tw12894846878355479289 : True := trivial
theorem tw12316451319587714905 : True := trivial
theorem tw9763541461562645594 : True := trivial
theorem tw11669072346840314074 : True := trivial
theorem tw10735785535848384730 : True := trivial
theorem tw1103075016558076186 : True := trivial
theorem tw14062373613637407002 : True := trivial
theorem tw8259427959783484762 : True := trivial
theorem tw12404195763827362298 : True := trivial
theorem tw4324358922716254074 : True := trivial
theorem tw1551570553960078234 : True := trivial
theorem tw2779200437116435354 : True := trivial
theorem tw11221840679390584762 : True := trivial
theorem tw9599987549412478970 : True := trivial
theorem tw1689195104628035611 : True := trivial
theorem tw16220277229708312635 : True := trivial
theorem tw5192140040745918555 : True := trivial
theorem tw789228779230085211 : True := trivial
theorem tw8268339575081440379 : True := trivial
theorem tw1800465893516400795 : True := trivial
theorem tw11130514348199805115 : True := trivial
theorem tw4520985997569414395 : True := trivial
theorem tw4925606541482599675 : True := trivial
theorem tw5163178837010161947 : True := trivial
theorem tw1598096100147413371 : True := trivial
theorem tw12843013401745533371 : True := trivial
theorem tw1725119183378892251 : True := trivial
theorem tw17734322553881127515 : True := trivial
theorem tw4550467282094030427 : True := trivial
theorem tw285354914393046651 : True := trivial
theorem tw17584563877394896603 : True := trivial
theorem tw7517681089145103067 : True := trivial
theorem tw7371564081565798139 : True := trivial
theorem tw10128157201641798395 : True := trivial
theorem tw15415361920952118171 : True := trivial
theorem tw2135762226268474299 : True := trivial
theorem tw2614876710858742747 : True := trivial
theorem tw11685849340836105372 : True := trivial
theorem tw2187067154965716188 : True := trivial
theorem tw15074085527233053020 : True := trivial
theorem tw16336152166725960060 : True := trivial
theorem tw3824967095602005564 : True := trivial
theorem tw1065210640480262780 : True := trivial
theorem tw154302947007306524 : True := trivial
theorem tw8071187578095406908 : True := trivial
theorem tw17615141539679554364 : True := trivial
theorem tw15953905666370403228 : True := trivial
theorem tw3373802326452992988 : True := trivial
theorem tw4715078118758588412 : True := trivial
theorem tw3297522467058520093 : True := trivial
theorem tw8160409333295636605 : True := trivial
theorem tw17629139497991311517 : True := trivial
theorem tw8307048361310947485 : True := trivial
theorem tw15583226547537161405 : True := trivial
theorem tw18094446679293035741 : True := trivial
theorem tw1195102944316063997 : True := trivial
theorem tw9082089361308919069 : True := trivial
theorem tw6856555678248854877 : True := trivial
theorem tw4507828018717741597 : True := trivial
theorem tw186319348476845661 : True := trivial
theorem tw4081442160547707485 : True := trivial
theorem tw10229350388257787517 : True := trivial
theorem tw896328332240916125 : True := trivial
theorem tw18380806515280384733 : True := trivial
theorem tw1111863395855789821 : True := trivial
theorem tw18207443536482291517 : True := trivial
theorem tw6183177875134944189 : True := trivial
theorem tw6775535614144581629 : True := trivial
theorem tw16958714617317431293 : True := trivial
theorem tw17801083709258639454 : True := trivial
theorem tw2293709274904871038 : True := trivial
theorem tw12659201427304287390 : True := trivial
theorem tw7691576707485323454 : True := trivial
theorem tw16625600326465124574 : True := trivial
theorem tw2356732303920064734 : True := trivial
theorem tw7930046936831359230 : True := trivial
theorem tw6653267559423763774 : True := trivial
theorem tw6385004140410805662 : True := trivial
theorem tw13927798490053269918 : True := trivial
theorem tw2221086120275477950 : True := trivial
theorem tw7343939702285279678 : True := trivial
theorem tw3812477864796410430 : True := trivial
theorem tw15267001809289417310 : True := trivial
theorem tw14385761209563280094 : True := trivial
theorem tw3739620397072145150 : True := trivial
theorem tw11169109388388173598 : True := trivial
theorem tw16274263958845748030 : True := trivial
theorem tw11442489265464630142 : True := trivial
theorem tw12062259141561681951 : True := trivial
theorem tw6047294231488604223 : True := trivial
theorem tw8425831397070174303 : True := trivial
theorem tw8806106696890582207 : True := trivial
theorem tw16443663830234568959 : True := trivial
theorem tw7939427951171283231 : True := trivial
theorem tw10899260532806812991 : True := trivial
theorem tw5952022805296159167 : True := trivial
theorem tw1447101998044158431 : True := trivial
theorem tw14820260844360312351 : True := trivial
theorem tw11209375948050392639 : True := trivial
theorem tw12152319918335822463 : True := trivial
theorem tw13338675767449971359 : True := trivial
theorem tw609736630428929759 : True := trivial
theorem tw8210163205212232479 : True := trivial
theorem tw12953495114607375199 : True := trivial
theorem tw13363511968979187551 : True := trivial
theorem tw433610849495016319 : True := trivial
theorem tw7958286411863157663 : True := trivial
theorem tw5604431066491294687 : True := trivial
theorem tw4718267836289810831 : True := trivial
theorem tw11590776422605373605 : True := trivial
end PySem.W.Fast
open_top hd2 for PySem.Challenge.rw_rh0086_02
set_option Elab.async false
set_option maxRecDepth 10000
set_option linter.all false
namespace RH
open PySem PySem.W PySem.Calls PyProof.Rows

inductive V where
  | none
  | bool (b : Bool)
  | int (i : Int)
  | str (s : Str)
  | tup (vs : List V)
  | loc (a : Addr)

inductive AO where
  | list (vs : List V)
  | dictI (kvs : List (Int × V))
  | dictS (kvs : List (Str × V))
  | dictT (kvs : List (List Int × V))
  | inst (C dx : Addr)
  | ns (fs : List (Str × V))
  | cell (v : Option V)
  | raw (o : Obj)

abbrev St := Addr → Option AO
def upd (σ : St) (a : Addr) (o : AO) : St := fun b => if b = a then some o else σ b
theorem upd_same (σ : St) (a : Addr) (o : AO) : upd σ a o a = some o := if_pos rfl
theorem upd_ne {σ : St} {a b : Addr} {o : AO} (h : b ≠ a) : upd σ a o b = σ b := if_neg h
theorem upd_upd (σ : St) (a : Addr) (o o' : AO) : upd (upd σ a o) a o' = upd σ a o' := by
  funext b; unfold upd; split <;> rfl
theorem upd_self {σ : St} {a : Addr} {o : AO} (h : σ a = some o) : upd σ a o = σ := by
  funext b; unfold upd; split
  · rename_i e; rw [e, h]
  · rfl
theorem upd_comm {σ : St} {a b : Addr} {o o' : AO} (h : a ≠ b) : upd (upd σ a o) b o' = upd (upd σ b o') a o := by
  funext c; unfold upd; split
  · rename_i e; subst e; rw [if_neg (Ne.symm h)]
  · rfl

abbrev Loc := List (Str × V)
def lget : Loc → Str → Option V
  | [], _ => none
  | (y, u) :: r, x => if y = x then some u else lget r x
def lset : Loc → Str → V → Loc
  | [], x, v => [(x, v)]
  | (y, u) :: r, x, v => if y = x then (y, v) :: r else (y, u) :: lset r x v
theorem lget_lset (ρ : Loc) (x y : Str) (v : V) : lget (lset ρ x v) y = if y = x then some v else lget ρ y := by
  induction ρ with
  | nil =>
    unfold lset lget
    by_cases h : x = y
    · subst h; simp
    · have h' : ¬ y = x := fun e => h e.symm
      simp only [if_neg h, if_neg h']; rfl
  | cons p r ih =>
    obtain ⟨z, u⟩ := p
    unfold lset
    by_cases hz : z = x
    · subst hz
      rw [if_pos rfl]
      unfold lget
      by_cases h : z = y
      · subst h; simp
      · have h' : ¬ y = z := fun e => h e.symm
        simp only [if_neg h, if_neg h']
    · rw [if_neg hz]
      by_cases h : z = y
      · subst h
        simp [lget, hz]
      · simp only [lget, if_neg h]; exact ih

mutual
inductive VR (h : Heap) : Value → V → Prop
  | none : VR h .none .none
  | bool (b : Bool) : VR h (.bool b) (.bool b)
  | int (i : Int) (t : Tok) : VR h (.int i t) (.int i)
  | str (s : Str) (t : Tok) : VR h (.str s t) (.str s)
  | tup {a : Addr} {items : Array Value} {vs : List V} : h.IsTuple a items → VRs h items.toList vs → VR h (.ref a) (.tup vs)
  | loc (a : Addr) : VR h (.ref a) (.loc a)
inductive VRs (h : Heap) : List Value → List V → Prop
  | nil : VRs h [] []
  | cons {v : Value} {x : V} {vs : List Value} {xs : List V} : VR h v x → VRs h vs xs → VRs h (v :: vs) (x :: xs)
end

def TK (h h' : Heap) : Prop := ∀ b items, h.IsTuple b items → h'.IsTuple b items
theorem TK.refl (h : Heap) : TK h h := fun _ _ e => e
theorem TK.trans {h h' h'' : Heap} (x : TK h h') (y : TK h' h'') : TK h h'' := fun b i e => y b i (x b i e)

mutual
theorem VR.mono {h h' : Heap} (k : TK h h') {v : Value} {x : V} (r : VR h v x) : VR h' v x := by
  cases r with
  | none => exact .none
  | bool b => exact .bool b
  | int i t => exact .int i t
  | str s t => exact .str s t
  | tup ht hs => exact .tup (k _ _ ht) (VRs.mono k hs)
  | loc a => exact .loc a
theorem VRs.mono {h h' : Heap} (k : TK h h') {v : List Value} {x : List V} (r : VRs h v x) : VRs h' v x := by
  cases r with
  | nil => exact .nil
  | cons a b => exact .cons (VR.mono k a) (VRs.mono k b)
end
theorem VRs.length {h : Heap} {vs : List Value} {xs : List V} (r : VRs h vs xs) : vs.length = xs.length := by
  induction xs generalizing vs with
  | nil => cases r; rfl
  | cons x xs ih => cases r with | cons _ b => simp [ih b]
theorem VRs.get {h : Heap} {vs : List Value} {xs : List V} (r : VRs h vs xs) {i : Nat} {x : V} (e : xs[i]? = some x) : ∃ v, vs[i]? = some v ∧ VR h v x := by
  induction xs generalizing vs i with
  | nil => simp at e
  | cons y ys ih =>
    cases r with
    | cons a b =>
      cases i with
      | zero => simp at e; subst e; exact ⟨_, rfl, a⟩
      | succ n => simp at e; simpa using ih b e
theorem VRs.append {h : Heap} {vs ws : List Value} {xs ys : List V} (r : VRs h vs xs) (r' : VRs h ws ys) : VRs h (vs ++ ws) (xs ++ ys) := by
  induction xs generalizing vs with
  | nil => cases r; exact r'
  | cons x xs ih => cases r with | cons a b => exact .cons a (ih b)
theorem VRs.snoc {h : Heap} {vs : List Value} {v : Value} {xs : List V} {x : V} (r : VRs h vs xs) (r' : VR h v x) : VRs h (vs ++ [v]) (xs ++ [x]) := r.append (.cons r' .nil)
theorem VRs.reverse {h : Heap} {vs : List Value} {xs : List V} (r : VRs h vs xs) : VRs h vs.reverse xs.reverse := by
  induction xs generalizing vs with
  | nil => cases r; exact .nil
  | cons x xs ih => cases r with | cons a b => simpa using (ih b).snoc a
theorem VRs.take {h : Heap} {vs : List Value} {xs : List V} (r : VRs h vs xs) (n : Nat) : VRs h (vs.take n) (xs.take n) := by
  induction xs generalizing vs n with
  | nil => cases r; cases n <;> exact .nil
  | cons x xs ih =>
    cases r with
    | cons a b => cases n with
      | zero => exact .nil
      | succ n => exact .cons a (ih b n)
theorem VRs.unsnoc {h : Heap} {vs : List Value} {xs : List V} {x : V} (r : VRs h vs (xs ++ [x])) : ∃ ws v, vs = ws ++ [v] ∧ VRs h ws xs ∧ VR h v x := by
  induction xs generalizing vs with
  | nil => cases r with | cons a b => cases b; exact ⟨[], _, rfl, .nil, a⟩
  | cons y ys ih =>
    cases r with
    | cons a b =>
      obtain ⟨ws, v, rfl, h1, h2⟩ := ih b
      exact ⟨_ :: ws, v, rfl, .cons a h1, h2⟩

section
variable (prog : Program) (w : World)

def CR (h : Heap) : Option Value → Option V → Prop
  | none, none => True
  | some v, some x => VR h v x
  | _, _ => False

inductive NR (h : Heap) : List DictEntry → List (Str × V) → Prop
  | nil : NR h [] []
  | cons {hs : Int} {x : Str} {t : Tok} {v : Value} {u : V} {es : List DictEntry} {fs : List (Str × V)} : VR h v u → NR h es fs → NR h (⟨hs, .str x t, v⟩ :: es) ((x, u) :: fs)

def OR (h : Heap) (a : Addr) : AO → Prop
  | .list vs => ∃ items, h.PlainList a items ∧ VRs h items.toList vs
  | .dictI kvs => (a == sysModules) = false ∧ ∃ kv, h.DictOf (intKind prog w) a kv ∧ kv.map (·.1) = kvs.map (·.1) ∧ VRs h (kv.map (·.2)) (kvs.map (·.2))
  | .dictS kvs => (a == sysModules) = false ∧ ∃ kv, h.DictOf (strKind prog w) a kv ∧ kv.map (·.1) = kvs.map (·.1) ∧ VRs h (kv.map (·.2)) (kvs.map (·.2))
  | .dictT kvs => (a == sysModules) = false ∧ ∃ kv, h.DictOfH (tupleKind (intKind prog w)) a kv ∧ kv.map (·.1) = kvs.map (·.1) ∧ VRs h (kv.map (·.2.2)) (kvs.map (·.2))
  | .inst C dx => h.get? a = some (instObj C dx)
  | .ns fs => ∃ es n, h.get? a = some (dictOf es n) ∧ NR h es fs
  | .cell v => ∃ o u, h.get? a = some o ∧ o.data = .cell u ∧ CR h u v
  | .raw o => h.get? a = some o ∧ ∀ items n, o.data ≠ .seq items n

/-- not a tuple -/
def NT (o : Obj) : Prop := ¬ (o.cls = .type "tuple" ∧ ∃ items n, o.data = .seq items n)
variable {prog w}
theorem OR.nt {h : Heap} {a : Addr} {o : AO} (r : OR prog w h a o) : ∃ ob, h.get? a = some ob ∧ NT ob := by
  cases o with
  | list vs => obtain ⟨items, ⟨n, ho⟩, _⟩ := r; exact ⟨_, ho, fun ⟨e, _⟩ => by simp at e⟩
  | dictI kvs => obtain ⟨_, kv, ⟨o, es, ep, ho, _, hd, _⟩, _⟩ := r; exact ⟨o, ho, fun ⟨_, _, _, e⟩ => by rw [hd] at e; cases e⟩
  | dictS kvs => obtain ⟨_, kv, ⟨o, es, ep, ho, _, hd, _⟩, _⟩ := r; exact ⟨o, ho, fun ⟨_, _, _, e⟩ => by rw [hd] at e; cases e⟩
  | dictT kvs => obtain ⟨_, kv, ⟨o, es, ep, ho, _, hd, _⟩, _⟩ := r; exact ⟨o, ho, fun ⟨_, _, _, e⟩ => by rw [hd] at e; cases e⟩
  | inst C dx => exact ⟨_, r, fun ⟨_, _, _, e⟩ => by cases e⟩
  | ns fs => obtain ⟨es, n, ho, _⟩ := r; exact ⟨_, ho, fun ⟨_, _, _, e⟩ => by cases e⟩
  | cell v => obtain ⟨o, u, ho, hd, _⟩ := r; exact ⟨_, ho, fun ⟨_, _, _, e⟩ => by rw [hd] at e; cases e⟩
  | raw o => exact ⟨o, r.1, fun ⟨_, _, _, e⟩ => r.2 _ _ e⟩

theorem CR.mono {h h' : Heap} (k : TK h h') {v : Option Value} {x : Option V} (r : CR h v x) : CR h' v x := by
  cases v <;> cases x <;> first | exact r | exact VR.mono k r
theorem NR.mono {h h' : Heap} (k : TK h h') {es : List DictEntry} {fs : List (Str × V)} (r : NR h es fs) : NR h' es fs := by
  induction r with
  | nil => exact .nil
  | cons a _ ih => exact .cons (a.mono k) ih
theorem tk_key {h h' : Heap} (k : TK h h') {ks : List Int} {a : Addr} (x : IsTupleKey (intKind prog w) h ks a) : IsTupleKey (intKind prog w) h' ks a := by
  obtain ⟨o, items, n, ho, hc, hd, hi⟩ := x
  obtain ⟨o', ho', hc', n', hd'⟩ := k a items ⟨o, ho, hc, n, hd⟩
  exact ⟨o', items, n', ho', hc', hd', hi⟩
theorem OR.mono {h h' : Heap} (k : TK h h') {a : Addr} {o : AO} (hk : ∀ ob, h.get? a = some ob → h'.get? a = some ob) (r : OR prog w h a o) : OR prog w h' a o := by
  cases o with
  | list vs => obtain ⟨items, ⟨n, ho⟩, hv⟩ := r; exact ⟨items, ⟨n, hk _ ho⟩, hv.mono k⟩
  | dictI kvs => obtain ⟨z, kv, ⟨o, es, ep, ho, q⟩, e, hv⟩ := r; exact ⟨z, kv, ⟨o, es, ep, hk _ ho, q⟩, e, hv.mono k⟩
  | dictS kvs => obtain ⟨z, kv, ⟨o, es, ep, ho, q⟩, e, hv⟩ := r; exact ⟨z, kv, ⟨o, es, ep, hk _ ho, q⟩, e, hv.mono k⟩
  | dictT kvs => obtain ⟨z, kv, ⟨o, es, ep, ho, q1, q2, q3, q4, q5⟩, e, hv⟩ := r; exact ⟨z, kv, ⟨o, es, ep, hk _ ho, q1, q2, q3, fun x hx => tk_key k (q4 x hx), q5⟩, e, hv.mono k⟩
  | inst C dx => exact hk _ r
  | ns fs => obtain ⟨es, n, ho, q⟩ := r; exact ⟨es, n, hk _ ho, q.mono k⟩
  | cell v => obtain ⟨o, u, ho, hd, q⟩ := r; exact ⟨o, u, hk _ ho, hd, q.mono k⟩
  | raw o => exact ⟨hk _ r.1, r.2⟩
end

end RH
set_option Elab.async false
set_option maxRecDepth 10000
set_option linter.all false
namespace RH
open PySem PySem.W PySem.Calls PyProof.Rows

structure Cx (w : World) (K : Frag) where
  A : Around
  L : Addr
  h₀ : Heap
  d : Nat
  p : Program
  loose : List Str
  mean : ExcName → Option Value
  mg : Str → Option Value
  mb : Str → Option Value
  base : Heap
  frs : List Env
  hA : A.frames = some frs
  BB : ∀ (g : Heap) (m : Str → Option Value), Fr h₀ L g m → Below A base frs g
  X : K.In h₀
  T : Top p loose mean mg mb h₀
  hh : A.handled = none
  dp : A.depth + d < 1000
  un : A.units + 20 * d < 9900

section
variable {prog : Program} {w : World} {K : Frag}

def LR (h : Heap) (ρ : Loc) (m : Str → Option Value) : Prop := ∀ x V, lget ρ x = some V → ∃ v, m x = some v ∧ VR h v V

structure Sim (prog : Program) (c : Cx w K) (ρ : Loc) (σ : St) (s : Shared) : Prop where
  loc : ∃ m, Fr c.h₀ c.L s.heap m ∧ LR s.heap ρ m
  obj : ∀ a o, σ a = some o → a ≠ c.L ∧ c.h₀.get? a = none ∧ OR prog w s.heap a o

structure Go (L : Addr) (σ : St) (s : Shared) (σ' : St) (s' : Shared) : Prop where
  st : ∃ h tk, s' = { s with heap := h, toks := tk }
  keep : ∀ b o, σ b = none → b ≠ L → s.heap.get? b = some o → s'.heap.get? b = some o
  tk : TK s.heap s'.heap
  new : ∀ b, σ b = none → σ' b ≠ none → b ≠ L ∧ s.heap.get? b = none

theorem Go.refl (L : Addr) (σ : St) (s : Shared) : Go L σ s σ s := ⟨⟨_, _, rfl⟩, fun _ _ _ _ e => e, TK.refl _, fun _ h h' => absurd h h'⟩
theorem Go.trans {L : Addr} {σ σ' σ'' : St} {s s' s'' : Shared} (x : Go L σ s σ' s') (y : Go L σ' s' σ'' s'') : Go L σ s σ'' s'' where
  st := by
    obtain ⟨h, tk, rfl⟩ := x.st
    obtain ⟨h', tk', rfl⟩ := y.st
    exact ⟨h', tk', rfl⟩
  keep := fun b o h hL e => by
    have h' : σ' b = none := by
      cases q : σ' b with
      | none => rfl
      | some o' => exact absurd (x.new b h (by rw [q]; simp)).2 (by rw [e]; simp)
    exact y.keep b o h' hL (x.keep b o h hL e)
  tk := x.tk.trans y.tk
  new := fun b h h'' => by
    cases q : σ' b with
    | some o' => exact x.new b h (by rw [q]; simp)
    | none =>
      obtain ⟨hL, hn⟩ := y.new b q h''
      refine ⟨hL, ?_⟩
      cases e : s.heap.get? b with
      | none => rfl
      | some o => have := x.keep b o h hL e; rw [hn] at this; cases this

/-- expression trees -/
def EV (prog : Program) (c : Cx w K) (t : Sem Value) (ρ : Loc) (σ : St) (Q : V → St → Prop) : Prop :=
  ∀ s, Sim prog c ρ σ s → wpAny (model prog w) c.A t (fun v s' => ∃ V σ', VR s'.heap v V ∧ Sim prog c ρ σ' s' ∧ Go c.L σ s σ' s' ∧ Q V σ') (fun _ _ => False) s
def EVs (prog : Program) (c : Cx w K) (t : Sem (List Value)) (ρ : Loc) (σ : St) (Q : List V → St → Prop) : Prop :=
  ∀ s, Sim prog c ρ σ s → wpAny (model prog w) c.A t (fun v s' => ∃ V σ', VRs s'.heap v V ∧ Sim prog c ρ σ' s' ∧ Go c.L σ s σ' s' ∧ Q V σ') (fun _ _ => False) s
def TR (prog : Program) (c : Cx w K) (t : Sem Bool) (ρ : Loc) (σ : St) (Q : Bool → St → Prop) : Prop :=
  ∀ s, Sim prog c ρ σ s → wpAny (model prog w) c.A t (fun b s' => ∃ σ', Sim prog c ρ σ' s' ∧ Go c.L σ s σ' s' ∧ Q b σ') (fun _ _ => False) s
inductive Fl where
  | next | brk | cont | ret (v : V)
def FR (h : Heap) : Flow → Fl → Prop
  | .next, .next => True
  | .brk, .brk => True
  | .cont, .cont => True
  | .ret v, .ret x => VR h v x
  | _, _ => False
def EX (prog : Program) (c : Cx w K) (t : Sem Flow) (ρ : Loc) (σ : St) (Q : Fl → Loc → St → Prop) : Prop :=
  ∀ s, Sim prog c ρ σ s → wpAny (model prog w) c.A t (fun f s' => ∃ fl ρ' σ', FR s'.heap f fl ∧ Sim prog c ρ' σ' s' ∧ Go c.L σ s σ' s' ∧ Q fl ρ' σ') (fun _ _ => False) s
/-- a storing tree -/
def SV (prog : Program) (c : Cx w K) (t : Sem Unit) (ρ : Loc) (σ : St) (Q : Loc → St → Prop) : Prop :=
  ∀ s, Sim prog c ρ σ s → wpAny (model prog w) c.A t (fun _ s' => ∃ ρ' σ', Sim prog c ρ' σ' s' ∧ Go c.L σ s σ' s' ∧ Q ρ' σ') (fun _ _ => False) s
/-- operations on values -/
def OP1 (prog : Program) (c : Cx w K) (f : Value → Sem Value) (x : V) (ρ : Loc) (σ : St) (Q : V → St → Prop) : Prop :=
  ∀ s v, Sim prog c ρ σ s → VR s.heap v x → wpAny (model prog w) c.A (f v) (fun v s' => ∃ V σ', VR s'.heap v V ∧ Sim prog c ρ σ' s' ∧ Go c.L σ s σ' s' ∧ Q V σ') (fun _ _ => False) s
def OP2 (prog : Program) (c : Cx w K) (f : Value → Value → Sem Value) (x y : V) (ρ : Loc) (σ : St) (Q : V → St → Prop) : Prop :=
  ∀ s v u, Sim prog c ρ σ s → VR s.heap v x → VR s.heap u y → wpAny (model prog w) c.A (f v u) (fun v s' => ∃ V σ', VR s'.heap v V ∧ Sim prog c ρ σ' s' ∧ Go c.L σ s σ' s' ∧ Q V σ') (fun _ _ => False) s
def OPn (prog : Program) (c : Cx w K) (f : List Value → Sem Value) (xs : List V) (ρ : Loc) (σ : St) (Q : V → St → Prop) : Prop :=
  ∀ s vs, Sim prog c ρ σ s → VRs s.heap vs xs → wpAny (model prog w) c.A (f vs) (fun v s' => ∃ V σ', VR s'.heap v V ∧ Sim prog c ρ σ' s' ∧ Go c.L σ s σ' s' ∧ Q V σ') (fun _ _ => False) s
def OPb (prog : Program) (c : Cx w K) (f : Value → Sem Bool) (x : V) (ρ : Loc) (σ : St) (Q : Bool → St → Prop) : Prop :=
  ∀ s v, Sim prog c ρ σ s → VR s.heap v x → wpAny (model prog w) c.A (f v) (fun b s' => ∃ σ', Sim prog c ρ σ' s' ∧ Go c.L σ s σ' s' ∧ Q b σ') (fun _ _ => False) s

variable {c : Cx w K} {ρ : Loc} {σ : St}

theorem EV.run {t : Sem Value} {Q : V → St → Prop} {P : Value → Shared → Prop} {s : Shared} (h : EV prog c t ρ σ Q) (S : Sim prog c ρ σ s)
    (k : ∀ v s' V σ', VR s'.heap v V → Sim prog c ρ σ' s' → Go c.L σ s σ' s' → Q V σ' → P v s') : wpAny (model prog w) c.A t P (fun _ _ => False) s :=
  wpAny_mono (h s S) (fun v s' ⟨V, σ', a, b, g, q⟩ => k v s' V σ' a b g q) fun _ _ e => e
theorem EVs.run {t : Sem (List Value)} {Q : List V → St → Prop} {P : List Value → Shared → Prop} {s : Shared} (h : EVs prog c t ρ σ Q) (S : Sim prog c ρ σ s)
    (k : ∀ v s' V σ', VRs s'.heap v V → Sim prog c ρ σ' s' → Go c.L σ s σ' s' → Q V σ' → P v s') : wpAny (model prog w) c.A t P (fun _ _ => False) s :=
  wpAny_mono (h s S) (fun v s' ⟨V, σ', a, b, g, q⟩ => k v s' V σ' a b g q) fun _ _ e => e
theorem TR.run {t : Sem Bool} {Q : Bool → St → Prop} {P : Bool → Shared → Prop} {s : Shared} (h : TR prog c t ρ σ Q) (S : Sim prog c ρ σ s)
    (k : ∀ b s' σ', Sim prog c ρ σ' s' → Go c.L σ s σ' s' → Q b σ' → P b s') : wpAny (model prog w) c.A t P (fun _ _ => False) s :=
  wpAny_mono (h s S) (fun v s' ⟨σ', b, g, q⟩ => k v s' σ' b g q) fun _ _ e => e
theorem EX.run {t : Sem Flow} {Q : Fl → Loc → St → Prop} {P : Flow → Shared → Prop} {s : Shared} (h : EX prog c t ρ σ Q) (S : Sim prog c ρ σ s)
    (k : ∀ f s' fl ρ' σ', FR s'.heap f fl → Sim prog c ρ' σ' s' → Go c.L σ s σ' s' → Q fl ρ' σ' → P f s') : wpAny (model prog w) c.A t P (fun _ _ => False) s :=
  wpAny_mono (h s S) (fun v s' ⟨V, ρ', σ', a, b, g, q⟩ => k v s' V ρ' σ' a b g q) fun _ _ e => e
theorem SV.run {t : Sem Unit} {Q : Loc → St → Prop} {P : Unit → Shared → Prop} {s : Shared} (h : SV prog c t ρ σ Q) (S : Sim prog c ρ σ s)
    (k : ∀ s' ρ' σ', Sim prog c ρ' σ' s' → Go c.L σ s σ' s' → Q ρ' σ' → P () s') : wpAny (model prog w) c.A t P (fun _ _ => False) s :=
  wpAny_mono (h s S) (fun v s' ⟨ρ', σ', b, g, q⟩ => k s' ρ' σ' b g q) fun _ _ e => e
theorem OP1.run {f : Value → Sem Value} {x : V} {Q : V → St → Prop} {P : Value → Shared → Prop} {s : Shared} {u : Value} (h : OP1 prog c f x ρ σ Q) (S : Sim prog c ρ σ s) (r : VR s.heap u x)
    (k : ∀ v s' V σ', VR s'.heap v V → Sim prog c ρ σ' s' → Go c.L σ s σ' s' → Q V σ' → P v s') : wpAny (model prog w) c.A (f u) P (fun _ _ => False) s :=
  wpAny_mono (h s u S r) (fun v s' ⟨V, σ', a, b, g, q⟩ => k v s' V σ' a b g q) fun _ _ e => e
theorem OP2.run {f : Value → Value → Sem Value} {x y : V} {Q : V → St → Prop} {P : Value → Shared → Prop} {s : Shared} {u u' : Value} (h : OP2 prog c f x y ρ σ Q) (S : Sim prog c ρ σ s) (r : VR s.heap u x) (r' : VR s.heap u' y)
    (k : ∀ v s' V σ', VR s'.heap v V → Sim prog c ρ σ' s' → Go c.L σ s σ' s' → Q V σ' → P v s') : wpAny (model prog w) c.A (f u u') P (fun _ _ => False) s :=
  wpAny_mono (h s u u' S r r') (fun v s' ⟨V, σ', a, b, g, q⟩ => k v s' V σ' a b g q) fun _ _ e => e
theorem OPn.run {f : List Value → Sem Value} {xs : List V} {Q : V → St → Prop} {P : Value → Shared → Prop} {s : Shared} {us : List Value} (h : OPn prog c f xs ρ σ Q) (S : Sim prog c ρ σ s) (r : VRs s.heap us xs)
    (k : ∀ v s' V σ', VR s'.heap v V → Sim prog c ρ σ' s' → Go c.L σ s σ' s' → Q V σ' → P v s') : wpAny (model prog w) c.A (f us) P (fun _ _ => False) s :=
  wpAny_mono (h s us S r) (fun v s' ⟨V, σ', a, b, g, q⟩ => k v s' V σ' a b g q) fun _ _ e => e
theorem OPb.run {f : Value → Sem Bool} {x : V} {Q : Bool → St → Prop} {P : Bool → Shared → Prop} {s : Shared} {u : Value} (h : OPb prog c f x ρ σ Q) (S : Sim prog c ρ σ s) (r : VR s.heap u x)
    (k : ∀ v s' σ', Sim prog c ρ σ' s' → Go c.L σ s σ' s' → Q v σ' → P v s') : wpAny (model prog w) c.A (f u) P (fun _ _ => False) s :=
  wpAny_mono (h s u S r) (fun v s' ⟨σ', b, g, q⟩ => k v s' σ' b g q) fun _ _ e => e

/-! facts of the simulation -/
theorem Sim.fr {s : Shared} (S : Sim prog c ρ σ s) : ∃ m, Fr c.h₀ c.L s.heap m := let ⟨m, F, _⟩ := S.loc; ⟨m, F⟩
theorem Sim.inK {s : Shared} (S : Sim prog c ρ σ s) : K.In s.heap := let ⟨_, F⟩ := S.fr; c.X.keeps F.keep
theorem Sim.toks {s : Shared} (S : Sim prog c ρ σ s) (tk : Nat) : Sim prog c ρ σ { s with toks := tk } := ⟨S.loc, S.obj⟩
theorem Go.toks {s : Shared} (L : Addr) (σ : St) (tk : Nat) : Go L σ s σ { s with toks := tk } := ⟨⟨_, _, rfl⟩, fun _ _ _ _ e => e, TK.refl _, fun _ h h' => absurd h h'⟩
theorem Sim.sub {ρ' : Loc} {s : Shared} (S : Sim prog c ρ σ s) (h : ∀ x V, lget ρ' x = some V → lget ρ x = some V) : Sim prog c ρ' σ s :=
  ⟨let ⟨m, F, R⟩ := S.loc; ⟨m, F, fun x V e => R x V (h x V e)⟩, S.obj⟩

theorem TK.push (h : Heap) (o : Obj) : TK h (h.push o) := fun _ _ x => x.push o
/-- a new object that nobody changes -/
theorem Sim.pushT {s : Shared} (S : Sim prog c ρ σ s) (o : Obj) (tk : Nat) : Sim prog c ρ σ { s with heap := s.heap.push o, toks := tk } :=
  ⟨let ⟨m, F, R⟩ := S.loc; ⟨m, F.push o, fun x V e => let ⟨v, hv, r⟩ := R x V e; ⟨v, hv, r.mono (TK.push _ _)⟩⟩,
   fun a o' e => let ⟨h1, h2, h3⟩ := S.obj a o' e; ⟨h1, h2, h3.mono (TK.push _ _) fun _ e => Heap.get?_push_of_some _ e⟩⟩
theorem Go.pushT {s : Shared} (L : Addr) (σ : St) (o : Obj) (tk : Nat) : Go L σ s σ { s with heap := s.heap.push o, toks := tk } :=
  ⟨⟨_, _, rfl⟩, fun _ _ _ _ e => Heap.get?_push_of_some _ e, TK.push _ _, fun _ h h' => absurd h h'⟩
theorem Sim.freshAt {s : Shared} (S : Sim prog c ρ σ s) : σ s.heap.objs.size = none := by
  cases q : σ s.heap.objs.size with
  | none => rfl
  | some o =>
    obtain ⟨ob, ho, _⟩ := (S.obj _ _ q).2.2.nt
    exact absurd (Heap.lt_size ho) (Nat.lt_irrefl _)
theorem Sim.sizeNe {s : Shared} (S : Sim prog c ρ σ s) : s.heap.objs.size ≠ c.L := by
  obtain ⟨m, F⟩ := S.fr
  exact Nat.ne_of_gt F.ns.lt
theorem Sim.size₀ {s : Shared} (S : Sim prog c ρ σ s) : c.h₀.get? s.heap.objs.size = none := by
  obtain ⟨m, F⟩ := S.fr
  cases q : c.h₀.get? s.heap.objs.size with
  | none => rfl
  | some o => exact absurd (Heap.lt_size (F.keep _ _ q)) (Nat.lt_irrefl _)
/-- a new object of the ledger -/
theorem Sim.pushO {s : Shared} (S : Sim prog c ρ σ s) (o : Obj) (ao : AO) (tk : Nat) (r : OR prog w (s.heap.push o) s.heap.objs.size ao) : Sim prog c ρ (upd σ s.heap.objs.size ao) { s with heap := s.heap.push o, toks := tk } := by
  have S' := S.pushT o tk
  refine ⟨S'.loc, fun a o' e => ?_⟩
  unfold upd at e
  split at e
  · rename_i q; cases e; subst q; exact ⟨S.sizeNe, S.size₀, r⟩
  · exact S'.obj a o' e
theorem Go.pushO {s : Shared} (S : Sim prog c ρ σ s) (o : Obj) (ao : AO) (tk : Nat) : Go c.L σ s (upd σ s.heap.objs.size ao) { s with heap := s.heap.push o, toks := tk } :=
  ⟨⟨_, _, rfl⟩, fun _ _ _ _ e => Heap.get?_push_of_some _ e, TK.push _ _, fun b h h' => by
    unfold upd at h'
    split at h'
    · rename_i q; subst q; exact ⟨S.sizeNe, Heap.get?_none_of_le (Nat.le_refl _)⟩
    · exact absurd h h'⟩

/-- an object of the ledger changes -/
theorem tk_of_same {h h' : Heap} {a : Addr} {ob : Obj} (hs : Heap.SameBut a h h') (ho : h.get? a = some ob) (hn : NT ob) : TK h h' := fun b items ⟨o, e, hc, n, hd⟩ => by
  have hne : b ≠ a := fun q => by subst q; rw [ho] at e; cases e; exact hn ⟨hc, items, n, hd⟩
  exact ⟨o, (hs.2 b hne).trans e, hc, n, hd⟩
theorem Sim.change {s : Shared} {a : Addr} {o : AO} (S : Sim prog c ρ σ s) (e : σ a = some o) {h' : Heap} (hs : Heap.SameBut a s.heap h') (ao : AO) (tk : Nat) (r : OR prog w h' a ao) :
    Sim prog c ρ (upd σ a ao) { s with heap := h', toks := tk } := by
  obtain ⟨hL, h0, r0⟩ := S.obj _ _ e
  obtain ⟨ob, ho, hn⟩ := r0.nt
  have k := tk_of_same hs ho hn
  refine ⟨let ⟨m, F, R⟩ := S.loc; ⟨m, ⟨F.ns.sameBut hs (Ne.symm hL), fun b x q => (hs.2 b fun z => ?_).trans (F.keep b x q), F.above⟩, fun x V e => let ⟨v, hv, r⟩ := R x V e; ⟨v, hv, r.mono k⟩⟩, fun b o' q => ?_⟩
  · subst z; rw [h0] at q; cases q
  · unfold upd at q
    split at q
    · rename_i z; cases q; subst z; exact ⟨hL, h0, r⟩
    · rename_i z
      obtain ⟨h1, h2, h3⟩ := S.obj b o' q
      exact ⟨h1, h2, h3.mono k fun ob e => (hs.2 b z).trans e⟩
theorem Go.change {s : Shared} {a : Addr} {o : AO} (S : Sim prog c ρ σ s) (e : σ a = some o) {h' : Heap} (hs : Heap.SameBut a s.heap h') (ao : AO) (tk : Nat) :
    Go c.L σ s (upd σ a ao) { s with heap := h', toks := tk } := by
  obtain ⟨hL, h0, r0⟩ := S.obj _ _ e
  obtain ⟨ob, ho, hn⟩ := r0.nt
  refine ⟨⟨_, _, rfl⟩, fun b o' hb _ q => (hs.2 b fun z => ?_).trans q, tk_of_same hs ho hn, fun b hb hb' => ?_⟩
  · subst z; rw [e] at hb; cases hb
  · unfold upd at hb'
    split at hb'
    · rename_i z; subst z; rw [e] at hb; cases hb
    · exact absurd hb hb'
/-- a local name is set -/
theorem Sim.store {s : Shared} (S : Sim prog c ρ σ s) {m : Str → Option Value} (F : Fr c.h₀ c.L s.heap m) (R : LR s.heap ρ m) {x : Str} {v : Value} {V : V} (r : VR s.heap v V) {h' : Heap} (tk : Nat) (hs : Heap.SameBut c.L s.heap h')
    (hn : h'.Ns c.L (fun y => if y = x then some v else m y)) : Sim prog c (lset ρ x V) σ { s with heap := h', toks := tk } := by
  obtain ⟨oL, es, ep, hL, hd, _⟩ := F.ns
  have k : TK s.heap h' := tk_of_same hs hL fun ⟨_, _, _, q⟩ => by rw [hd] at q; cases q
  refine ⟨⟨_, F.set hn hs, fun y U e => ?_⟩, fun b o q => ?_⟩
  · rw [lget_lset] at e
    by_cases h : x = y
    · subst h
      rw [if_pos rfl] at e; cases e
      exact ⟨v, if_pos rfl, r.mono k⟩
    · rw [if_neg (fun z => h z.symm)] at e
      obtain ⟨u, hu, r'⟩ := R y U e
      exact ⟨u, by rw [if_neg (fun z => h z.symm)]; exact hu, r'.mono k⟩
  · obtain ⟨h1, h2, h3⟩ := S.obj b o q
    exact ⟨h1, h2, h3.mono k fun ob e => (hs.2 b h1).trans e⟩
theorem Go.store {s : Shared} (S : Sim prog c ρ σ s) {h' : Heap} (tk : Nat) (hs : Heap.SameBut c.L s.heap h') : Go c.L σ s σ { s with heap := h', toks := tk } := by
  obtain ⟨m, F, R⟩ := S.loc
  obtain ⟨oL, es, ep, hL, hd, _⟩ := F.ns
  exact ⟨⟨_, _, rfl⟩, fun b o _ hb e => (hs.2 b hb).trans e, tk_of_same hs hL (fun ⟨_, _, _, q⟩ => by rw [hd] at q; cases q), fun _ h h' => absurd h h'⟩

/-- the heap only grows -/
theorem tk_of_ext {h h' : Heap} (k : ∀ b o, h.get? b = some o → h'.get? b = some o) : TK h h' := fun b items ⟨o, e, q⟩ => ⟨o, k b o e, q⟩
theorem Sim.ext {s : Shared} (S : Sim prog c ρ σ s) {h' : Heap} (tk : Nat) (k : ∀ b o, s.heap.get? b = some o → h'.get? b = some o) : Sim prog c ρ σ { s with heap := h', toks := tk } :=
  ⟨let ⟨m, F, R⟩ := S.loc; ⟨m, ⟨F.ns.keeps k, fun b o e => k b o (F.keep b o e), F.above⟩, fun x V e => let ⟨v, hv, r⟩ := R x V e; ⟨v, hv, r.mono (tk_of_ext k)⟩⟩,
   fun a o' e => let ⟨h1, h2, h3⟩ := S.obj a o' e; ⟨h1, h2, h3.mono (tk_of_ext k) fun ob e => k a ob e⟩⟩
theorem Go.ext {s : Shared} (L : Addr) (σ : St) {h' : Heap} (tk : Nat) (k : ∀ b o, s.heap.get? b = some o → h'.get? b = some o) : Go L σ s σ { s with heap := h', toks := tk } :=
  ⟨⟨_, _, rfl⟩, fun b o _ _ e => k b o e, tk_of_ext k, fun _ h h' => absurd h h'⟩
theorem ext_of_fresh {h h' : Heap} (k : Heap.ExtBut h.objs.size h h') : ∀ b o, h.get? b = some o → h'.get? b = some o := fun b o e => k b o (Nat.ne_of_lt (Heap.lt_size e)) e

/-- an object that is nobody's changes -/
theorem Sim.but {s : Shared} {I : Addr} {ob : Obj} (S : Sim prog c ρ σ s) (hI : σ I = none) (hL : I ≠ c.L) (h0 : c.h₀.get? I = none) (ho : s.heap.get? I = some ob) (hn : NT ob) {h' : Heap} (hs : Heap.ExtBut I s.heap h') (tk : Nat) : Sim prog c ρ σ { s with heap := h', toks := tk } := by
  have k : TK s.heap h' := fun b items ⟨o, e, hc, n, hd⟩ => ⟨o, hs b o (fun z => by subst z; rw [ho] at e; cases e; exact hn ⟨hc, items, n, hd⟩) e, hc, n, hd⟩
  refine ⟨let ⟨m, F, R⟩ := S.loc; ⟨m, ⟨F.ns.extBut hs (Ne.symm hL), fun b o e => hs b o (fun z => by subst z; rw [h0] at e; cases e) (F.keep b o e), F.above⟩, fun x V e => let ⟨v, hv, r⟩ := R x V e; ⟨v, hv, r.mono k⟩⟩, fun a o' e => ?_⟩
  obtain ⟨h1, h2, h3⟩ := S.obj a o' e
  exact ⟨h1, h2, h3.mono k fun ob e' => hs a ob (fun z => by subst z; rw [hI] at e; cases e) e'⟩
theorem Go.but {L : Addr} {σ₀ : St} {s₀ s : Shared} {I : Addr} {ob : Obj} (g : Go L σ₀ s₀ σ s) (hI : s₀.heap.get? I = none) (ho : s.heap.get? I = some ob) (hn : NT ob) {h' : Heap} (hs : Heap.ExtBut I s.heap h') (tk : Nat) : Go L σ₀ s₀ σ { s with heap := h', toks := tk } := by
  have k : TK s.heap h' := fun b items ⟨o, e, hc, n, hd⟩ => ⟨o, hs b o (fun z => by subst z; rw [ho] at e; cases e; exact hn ⟨hc, items, n, hd⟩) e, hc, n, hd⟩
  refine ⟨?_, fun b o hb hL e => hs b o (fun z => by subst z; rw [hI] at e; cases e) (g.keep b o hb hL e), g.tk.trans k, g.new⟩
  obtain ⟨h, t, rfl⟩ := g.st
  exact ⟨h', tk, rfl⟩
end
end RH
set_option Elab.async false
set_option maxRecDepth 10000
set_option linter.all false
namespace RH
open PySem PySem.W PySem.Calls PyProof.Rows

structure EnvOk {w : World} {K : Frag} (c : Cx w K) (env : Env) : Prop where
  L : env.locals = c.L
  kd : env.scope.kind = .function
  gl : env.globals = mainGlobals
  bu : env.builtins = builtinsNs

section
variable {prog : Program} {w : World} {K : Frag} {c : Cx w K} {ρ : Loc} {σ : St} {env : Env} {Q : V → St → Prop}

theorem EV.mono {t : Sem Value} {Q' : V → St → Prop} (h : EV prog c t ρ σ Q) (k : ∀ v σ', Q v σ' → Q' v σ') : EV prog c t ρ σ Q' :=
  fun s S => h.run S fun _ _ V σ' a b g q => ⟨V, σ', a, b, g, k _ _ q⟩

/-! names -/
theorem EV_local {x : Str} {pos : Pos} {V : V} (he : EnvOk c env) (hk : env.kindOf x = some .local) (hd : (x == ("__debug__" : Str)) = false) (hv : lget ρ x = some V) (h : Q V σ) : EV prog c (eval (.Name x pos) env) ρ σ Q := fun s S => by
  obtain ⟨m, F, R⟩ := S.loc
  obtain ⟨v, hm, r⟩ := R x V hv
  exact wpAny_Name (wpAny_loadName_local he.kd hk (he.L ▸ F.ns) hm ⟨V, σ, r, S, Go.refl _ _ _, h⟩) hd
theorem EV_cell {x : Str} {pos : Pos} {V : V} {a : Addr} (he : EnvOk c env) (hk : env.kindOf x = some .cell) (hd : (x == ("__debug__" : Str)) = false) (hc : env.cells.lookup x = some a) (hv : σ a = some (.cell (some V))) (h : Q V σ) : EV prog c (eval (.Name x pos) env) ρ σ Q := fun s S => by
  obtain ⟨_, _, o, u, ho, hd', r⟩ := S.obj _ _ hv
  cases u with
  | none => exact r.elim
  | some v => exact wpAny_Name (wpAny_loadName_cell he.kd hk hc ⟨o, ho, hd'⟩ ⟨V, σ, r, S, Go.refl _ _ _, h⟩) hd
theorem EV_free {x : Str} {pos : Pos} {V : V} {a : Addr} (he : EnvOk c env) (hk : env.kindOf x = some .free) (hd : (x == ("__debug__" : Str)) = false) (hd2 : (x == ("__classdict__" : Str)) = false) (hc : env.cells.lookup x = some a) (hv : σ a = some (.cell (some V))) (h : Q V σ) : EV prog c (eval (.Name x pos) env) ρ σ Q := fun s S => by
  obtain ⟨_, _, o, u, ho, hd', r⟩ := S.obj _ _ hv
  cases u with
  | none => exact r.elim
  | some v => exact wpAny_Name (wpAny_loadName_free he.kd hk hc ⟨o, ho, hd'⟩ ⟨V, σ, r, S, Go.refl _ _ _, h⟩ hd2) hd
theorem EV_glob_raw {x : Str} {pos : Pos} {v : Value} {P : Value → Shared → Prop} {E : Value → Shared → Prop} {s : Shared} (S : Sim prog c ρ σ s) (he : EnvOk c env) (hk : env.kindOf x = some .globalImplicit) (hd : (x == ("__debug__" : Str)) = false) (hn : nsIn K mainGlobals x = some (some v)) (h : P v s) :
    wpAny (model prog w) c.A (eval (.Name x pos) env) P E s := by
  obtain ⟨m, F⟩ := S.fr
  exact Name_function_global he.kd hk (loadGlobal_global (he.gl ▸ c.T.g.keeps F.keep) (mg_of c.X c.T.g hn) h) hd
theorem EV_builtin_raw {x : Str} {pos : Pos} {v : Value} {P : Value → Shared → Prop} {E : Value → Shared → Prop} {s : Shared} (S : Sim prog c ρ σ s) (he : EnvOk c env) (hk : env.kindOf x = some .globalImplicit) (hd : (x == ("__debug__" : Str)) = false) (hn : nsIn K mainGlobals x = some none) (hb : bootBuiltins x = some v) (hnn : x ≠ "__name__") (h : P v s) :
    wpAny (model prog w) c.A (eval (.Name x pos) env) P E s := by
  obtain ⟨m, F⟩ := S.fr
  exact Name_function_global he.kd hk (loadGlobal_builtin (he.gl ▸ c.T.g.keeps F.keep) (mg_none_of c.X c.T.g hn) (he.bu ▸ c.T.b.keeps F.keep) ((c.T.builtins x hnn).trans hb) h) hd
theorem EV_globInt {x : Str} {pos : Pos} {i : Int} {t : Tok} (he : EnvOk c env) (hk : env.kindOf x = some .globalImplicit) (hd : (x == ("__debug__" : Str)) = false) (hn : nsIn K mainGlobals x = some (some (.int i t))) (h : Q (.int i) σ) : EV prog c (eval (.Name x pos) env) ρ σ Q := fun s S =>
  EV_glob_raw S he hk hd hn ⟨_, σ, .int i t, S, Go.refl _ _ _, h⟩
theorem EV_globRef {x : Str} {pos : Pos} {a : Addr} (he : EnvOk c env) (hk : env.kindOf x = some .globalImplicit) (hd : (x == ("__debug__" : Str)) = false) (hn : nsIn K mainGlobals x = some (some (.ref a))) (h : Q (.loc a) σ) : EV prog c (eval (.Name x pos) env) ρ σ Q := fun s S =>
  EV_glob_raw S he hk hd hn ⟨_, σ, .loc a, S, Go.refl _ _ _, h⟩

/-! constants -/
theorem EV_int {i : Int} {k : Nat} {pos : Pos} (h : Q (.int i) σ) : EV prog c (eval (.Constant (.int i) k pos) env) ρ σ Q := fun s S =>
  wpAny_Constant_int ⟨_, σ, .int i _, S.toks _, Go.toks _ _ _, h⟩
theorem EV_str {x : Str} {k : Nat} {pos : Pos} (h : Q (.str x) σ) : EV prog c (eval (.Constant (.str x) k pos) env) ρ σ Q := fun s S =>
  wpAny_Constant_str ⟨_, σ, .str x _, S.toks _, Go.toks _ _ _, h⟩
theorem EV_bool {b : Bool} {k : Nat} {pos : Pos} (h : Q (.bool b) σ) : EV prog c (eval (.Constant (.bool b) k pos) env) ρ σ Q := fun s S =>
  wpAny_Constant_bool ⟨_, σ, .bool b, S, Go.refl _ _ _, h⟩
theorem EV_none {k : Nat} {pos : Pos} (h : Q .none σ) : EV prog c (eval (.Constant .none k pos) env) ρ σ Q := fun s S =>
  wpAny_Constant_none ⟨_, σ, .none, S, Go.refl _ _ _, h⟩

/-! lists of expressions -/
theorem EVs_nil {pos : Pos} {Q : List V → St → Prop} (h : Q [] σ) : EVs prog c (spliced (backTo pos (starEach [] env))) ρ σ Q := fun s S =>
  spliced_none ⟨[], σ, .nil, S, Go.refl _ _ _, h⟩
theorem EVs_cons {e : PySem.Expr} {rest : List PySem.Expr} {pos : Pos} {Q : List V → St → Prop}
    (he : starEach (e :: rest) env = (false, eval e env) :: starEach rest env)
    (h : EV prog c (eval e env) ρ σ fun x σ₁ => EVs prog c (spliced (backTo pos (starEach rest env))) ρ σ₁ fun xs σ₂ => Q (x :: xs) σ₂) :
    EVs prog c (spliced (backTo pos (starEach (e :: rest) env))) ρ σ Q := fun s S =>
  spliced_more (h.run S fun v s₁ V σ₁ r S₁ g₁ h₁ => h₁.run S₁ fun vs s₂ Vs σ₂ rs S₂ g₂ q => ⟨V :: Vs, σ₂, .cons (r.mono g₂.tk) rs, S₂, g₁.trans g₂, q⟩) he

theorem EV_Tuple {elts : List PySem.Expr} {k : Nat} {pos : Pos} (h : EVs prog c (spliced (backTo pos (starEach elts env))) ρ σ fun xs σ₁ => xs.length ≤ 1000000 ∧ Q (.tup xs) σ₁) :
    EV prog c (eval (.Tuple elts k pos) env) ρ σ Q := fun s S =>
  wpAny_Tuple (h.run S fun vs s₁ Vs σ₁ rs S₁ g₁ ⟨hl, q⟩ => ⟨by rw [rs.length]; exact Nat.le_trans hl (by decide), _, σ₁,
    .tup ⟨_, Heap.get?_push_size _ rfl, rfl, 0, rfl⟩ (rs.mono (TK.push _ _)), S₁.pushT _ _, g₁.trans (Go.pushT _ _ _ _), q⟩)
theorem EV_List {elts : List PySem.Expr} {pos : Pos} (h : EVs prog c (spliced (backTo pos (starEach elts env))) ρ σ fun xs σ₁ => xs.length ≤ 1000000 ∧ ∀ a, σ₁ a = none → Q (.loc a) (upd σ₁ a (.list xs))) :
    EV prog c (eval (.List elts pos) env) ρ σ Q := fun s S =>
  wpAny_List (h.run S fun vs s₁ Vs σ₁ rs S₁ g₁ ⟨hl, q⟩ => ⟨by rw [rs.length]; exact Nat.le_trans hl (by decide), _, _,
    .loc _, S₁.pushO _ (.list Vs) _ ⟨_, ⟨0, Heap.get?_push_size _ rfl⟩, rs.mono (TK.push _ _)⟩, g₁.trans (Go.pushO S₁ _ _ _), q _ S₁.freshAt⟩)

/-! operators -/
theorem EV_BinOp {l r : PySem.Expr} {op : Operator} {pos : Pos}
    (h : EV prog c (eval l env) ρ σ fun x σ₁ => EV prog c (eval r env) ρ σ₁ fun y σ₂ => OP2 prog c (binaryOp op) x y ρ σ₂ Q) :
    EV prog c (eval (.BinOp l op r pos) env) ρ σ Q := fun s S =>
  wpAny_BinOp (h.run S fun v s₁ V σ₁ r₁ S₁ g₁ h₁ => h₁.run S₁ fun v₂ s₂ V₂ σ₂ r₂ S₂ g₂ h₂ => h₂.run S₂ (r₁.mono g₂.tk) r₂ fun v₃ s₃ V₃ σ₃ r₃ S₃ g₃ q =>
    ⟨V₃, σ₃, r₃, S₃, (g₁.trans g₂).trans g₃, q⟩)
theorem EV_Compare {l r : PySem.Expr} {op : CmpOp} {pos : Pos} (hm : behindInMarks op r = false)
    (h : EV prog c (eval l env) ρ σ fun x σ₁ => EV prog c (eval r env) ρ σ₁ fun y σ₂ => OP2 prog c (compareOp op) x y ρ σ₂ Q) :
    EV prog c (eval (.Compare l [op] [r] pos) env) ρ σ Q := fun s S =>
  wpAny_Compare1 (h.run S fun v s₁ V σ₁ r₁ S₁ g₁ h₁ => h₁.run S₁ fun v₂ s₂ V₂ σ₂ r₂ S₂ g₂ h₂ => h₂.run S₂ (r₁.mono g₂.tk) r₂ fun v₃ s₃ V₃ σ₃ r₃ S₃ g₃ q =>
    ⟨V₃, σ₃, r₃, S₃, (g₁.trans g₂).trans g₃, q⟩) hm
theorem EV_UnaryOp {x : PySem.Expr} {op : UnaryOp} {pos : Pos}
    (h : EV prog c (eval x env) ρ σ fun x σ₁ => OP1 prog c (unaryOp op) x ρ σ₁ Q) : EV prog c (eval (.UnaryOp op x pos) env) ρ σ Q := fun s S =>
  wpAny_UnaryOp (h.run S fun v s₁ V σ₁ r₁ S₁ g₁ h₁ => h₁.run S₁ r₁ fun v₃ s₃ V₃ σ₃ r₃ S₃ g₃ q => ⟨V₃, σ₃, r₃, S₃, g₁.trans g₃, q⟩)
theorem EV_IfExp {test body orelse : PySem.Expr} {pos : Pos}
    (h : TR prog c (isTrue test env (eval test env)) ρ σ fun b σ₁ => if b then EV prog c (eval body env) ρ σ₁ Q else EV prog c (eval orelse env) ρ σ₁ Q) :
    EV prog c (eval (.IfExp test body orelse pos) env) ρ σ Q := fun s S =>
  wpAny_IfExp (h.run S fun b s₁ σ₁ S₁ g₁ h₁ => by
    cases b
    · exact EV.run h₁ S₁ fun v₃ s₃ V₃ σ₃ r₃ S₃ g₃ q => ⟨V₃, σ₃, r₃, S₃, g₁.trans g₃, q⟩
    · exact EV.run h₁ S₁ fun v₃ s₃ V₃ σ₃ r₃ S₃ g₃ q => ⟨V₃, σ₃, r₃, S₃, g₁.trans g₃, q⟩)
theorem EV_and {e₁ e₂ : PySem.Expr} {rest : List PySem.Expr} {pos : Pos}
    (h : EV prog c (eval e₁ env) ρ σ fun x σ₁ => OPb prog c truthy x ρ σ₁ fun b σ₂ => if b then EV prog c (eval (.BoolOp .And (e₂ :: rest) pos) env) ρ σ₂ Q else Q x σ₂) :
    EV prog c (eval (.BoolOp .And (e₁ :: e₂ :: rest) pos) env) ρ σ Q := fun s S =>
  BoolOp_and (h.run S fun v s₁ V σ₁ r₁ S₁ g₁ h₁ => h₁.run S₁ r₁ fun b s₂ σ₂ S₂ g₂ h₂ => by
    cases b
    · exact ⟨V, σ₂, r₁.mono g₂.tk, S₂, g₁.trans g₂, h₂⟩
    · exact EV.run h₂ S₂ fun v₃ s₃ V₃ σ₃ r₃ S₃ g₃ q => ⟨V₃, σ₃, r₃, S₃, (g₁.trans g₂).trans g₃, q⟩)
theorem EV_or {e₁ e₂ : PySem.Expr} {rest : List PySem.Expr} {pos : Pos}
    (h : EV prog c (eval e₁ env) ρ σ fun x σ₁ => OPb prog c truthy x ρ σ₁ fun b σ₂ => if b then Q x σ₂ else EV prog c (eval (.BoolOp .Or (e₂ :: rest) pos) env) ρ σ₂ Q) :
    EV prog c (eval (.BoolOp .Or (e₁ :: e₂ :: rest) pos) env) ρ σ Q := fun s S =>
  BoolOp_or (h.run S fun v s₁ V σ₁ r₁ S₁ g₁ h₁ => h₁.run S₁ r₁ fun b s₂ σ₂ S₂ g₂ h₂ => by
    cases b
    · exact EV.run h₂ S₂ fun v₃ s₃ V₃ σ₃ r₃ S₃ g₃ q => ⟨V₃, σ₃, r₃, S₃, (g₁.trans g₂).trans g₃, q⟩
    · exact ⟨V, σ₂, r₁.mono g₂.tk, S₂, g₁.trans g₂, h₂⟩)
theorem EV_one {e : PySem.Expr} {op : BoolOp} {pos : Pos} (h : EV prog c (eval e env) ρ σ Q) : EV prog c (eval (.BoolOp op [e] pos) env) ρ σ Q := fun s S => BoolOp_one (h s S)

/-! tests -/
theorem TR_Compare {l r : PySem.Expr} {op : CmpOp} {pos : Pos} {whole : Sem Value} {Q : Bool → St → Prop} (hm : behindInMarks op r = false)
    (h : EV prog c (eval l env) ρ σ fun x σ₁ => EV prog c (eval r env) ρ σ₁ fun y σ₂ => OP2 prog c (compareOp op) x y ρ σ₂ fun z σ₃ => ∃ b, z = .bool b ∧ Q b σ₃) :
    TR prog c (isTrue (.Compare l [op] [r] pos) env whole) ρ σ Q := fun s S =>
  wpAny_isTrue_Compare1 (h.run S fun v s₁ V σ₁ r₁ S₁ g₁ h₁ => h₁.run S₁ fun v₂ s₂ V₂ σ₂ r₂ S₂ g₂ h₂ => h₂.run S₂ (r₁.mono g₂.tk) r₂ fun v₃ s₃ V₃ σ₃ r₃ S₃ g₃ ⟨b, e, q⟩ => by
    subst e; cases r₃
    exact wpAny_truthy_bool ⟨σ₃, S₃, (g₁.trans g₂).trans g₃, q⟩) hm
theorem TR_plain {e : PySem.Expr} {whole : Sem Value} {Q : Bool → St → Prop} (he : isTrue e env whole = (do let v ← whole; standAt e.pos; holding [v] (truthy v)))
    (h : EV prog c whole ρ σ fun x σ₁ => OPb prog c truthy x ρ σ₁ Q) : TR prog c (isTrue e env whole) ρ σ Q := fun s S =>
  isTrue_plain (h.run S fun v s₁ V σ₁ r₁ S₁ g₁ h₁ => h₁.run S₁ r₁ fun b s₂ σ₂ S₂ g₂ q => ⟨σ₂, S₂, g₁.trans g₂, q⟩) he
theorem TR_not {x : PySem.Expr} {pos : Pos} {whole : Sem Value} {Q : Bool → St → Prop} (h : TR prog c (isTrue x env (eval x env)) ρ σ fun b σ₁ => Q (!b) σ₁) : TR prog c (isTrue (.UnaryOp .Not x pos) env whole) ρ σ Q := fun s S =>
  isTrue_not (h.run S fun b s₂ σ₂ S₂ g₂ q => ⟨σ₂, S₂, g₂, q⟩)
theorem TR_and {x : PySem.Expr} {rest : List PySem.Expr} {pos : Pos} {whole : Sem Value} {Q : Bool → St → Prop}
    (h : TR prog c (isTrue x env (eval x env)) ρ σ fun b σ₁ => if b then TR prog c (isTrue (.BoolOp .And rest pos) env whole) ρ σ₁ Q else Q false σ₁) :
    TR prog c (isTrue (.BoolOp .And (x :: rest) pos) env whole) ρ σ Q := fun s S =>
  isTrue_and (h.run S fun b s₂ σ₂ S₂ g₂ h₂ => by
    cases b
    · exact ⟨σ₂, S₂, g₂, h₂⟩
    · exact TR.run h₂ S₂ fun b s₃ σ₃ S₃ g₃ q => ⟨σ₃, S₃, g₂.trans g₃, q⟩)
theorem TR_or {x : PySem.Expr} {rest : List PySem.Expr} {pos : Pos} {whole : Sem Value} {Q : Bool → St → Prop}
    (h : TR prog c (isTrue x env (eval x env)) ρ σ fun b σ₁ => if b then Q true σ₁ else TR prog c (isTrue (.BoolOp .Or rest pos) env whole) ρ σ₁ Q) :
    TR prog c (isTrue (.BoolOp .Or (x :: rest) pos) env whole) ρ σ Q := fun s S =>
  isTrue_or (h.run S fun b s₂ σ₂ S₂ g₂ h₂ => by
    cases b
    · exact TR.run h₂ S₂ fun b s₃ σ₃ S₃ g₃ q => ⟨σ₃, S₃, g₂.trans g₃, q⟩
    · exact ⟨σ₂, S₂, g₂, h₂⟩)
theorem TR_and0 {pos : Pos} {whole : Sem Value} {Q : Bool → St → Prop} (h : Q true σ) : TR prog c (isTrue (.BoolOp .And [] pos) env whole) ρ σ Q := fun s S => isTrue_and_nil ⟨σ, S, Go.refl _ _ _, h⟩
theorem TR_or0 {pos : Pos} {whole : Sem Value} {Q : Bool → St → Prop} (h : Q false σ) : TR prog c (isTrue (.BoolOp .Or [] pos) env whole) ρ σ Q := fun s S => isTrue_or_nil ⟨σ, S, Go.refl _ _ _, h⟩

/-! operations on ints, texts -/
theorem OP_add {i j : Int} (h : Q (.int (i + j)) σ) : OP2 prog c (binaryOp .Add) (.int i) (.int j) ρ σ Q := fun s v u S r₁ r₂ => by
  cases r₁; cases r₂; exact add_int ⟨_, σ, .int _ _, S.toks _, Go.toks _ _ _, h⟩
theorem OP_sub {i j : Int} (h : Q (.int (i - j)) σ) : OP2 prog c (binaryOp .Sub) (.int i) (.int j) ρ σ Q := fun s v u S r₁ r₂ => by
  cases r₁; cases r₂; exact sub_int ⟨_, σ, .int _ _, S.toks _, Go.toks _ _ _, h⟩
theorem OP_mul {i j : Int} (hm : IntMulOk i j) (h : Q (.int (i * j)) σ) : OP2 prog c (binaryOp .Mult) (.int i) (.int j) ρ σ Q := fun s v u S r₁ r₂ => by
  cases r₁; cases r₂; exact mul_int ⟨_, σ, .int _ _, S.toks _, Go.toks _ _ _, h⟩ hm
theorem OP_mod {i j : Int} (hj : j ≠ 0) (h : Q (.int (i.fmod j)) σ) : OP2 prog c (binaryOp .Mod) (.int i) (.int j) ρ σ Q := fun s v u S r₁ r₂ => by
  cases r₁; cases r₂; exact mod_int' hj ⟨_, σ, .int _ _, S.toks _, Go.toks _ _ _, h⟩
theorem OP_fdiv {i j : Int} (hj : j ≠ 0) (hp : Builtin.divisionGoesByPylong i j = false) (h : Q (.int (i.fdiv j)) σ) : OP2 prog c (binaryOp .FloorDiv) (.int i) (.int j) ρ σ Q := fun s v u S r₁ r₂ => by
  cases r₁; cases r₂; exact floordiv_int hj ⟨_, σ, .int _ _, S.toks _, Go.toks _ _ _, h⟩ (.inl hp)
theorem OP_pow {i j : Int} (hj : 0 ≤ j) (hb : (Builtin.Int.intBits i : Int) * j ≤ 2 ^ 27) (h : Q (.int (i ^ j.toNat)) σ) : OP2 prog c (binaryOp .Pow) (.int i) (.int j) ρ σ Q := fun s v u S r₁ r₂ => by
  cases r₁; cases r₂; exact pow_int hj hb ⟨_, σ, .int _ _, S.toks _, Go.toks _ _ _, h⟩
theorem OP_neg {i : Int} (h : Q (.int (-i)) σ) : OP1 prog c (unaryOp .USub) (.int i) ρ σ Q := fun s v S r₁ => by
  cases r₁; exact neg_int ⟨_, σ, .int _ _, S.toks _, Go.toks _ _ _, h⟩
theorem OP_lt {i j : Int} (h : Q (.bool (decide (i < j))) σ) : OP2 prog c (compareOp .Lt) (.int i) (.int j) ρ σ Q := fun s v u S r₁ r₂ => by
  cases r₁; cases r₂; exact lt_int ⟨_, σ, .bool _, S, Go.refl _ _ _, h⟩
theorem OP_gt {i j : Int} (h : Q (.bool (decide (j < i))) σ) : OP2 prog c (compareOp .Gt) (.int i) (.int j) ρ σ Q := fun s v u S r₁ r₂ => by
  cases r₁; cases r₂; exact gt_int ⟨_, σ, .bool _, S, Go.refl _ _ _, h⟩
theorem OP_ge {i j : Int} (h : Q (.bool (decide (j ≤ i))) σ) : OP2 prog c (compareOp .GtE) (.int i) (.int j) ρ σ Q := fun s v u S r₁ r₂ => by
  cases r₁; cases r₂; exact ge_int ⟨_, σ, .bool _, S, Go.refl _ _ _, h⟩
theorem OP_eq {i j : Int} (h : Q (.bool (i == j)) σ) : OP2 prog c (compareOp .Eq) (.int i) (.int j) ρ σ Q := fun s v u S r₁ r₂ => by
  cases r₁; cases r₂; exact eq_int ⟨_, σ, .bool _, S, Go.refl _ _ _, h⟩
theorem OP_ne {i j : Int} (h : Q (.bool (i != j)) σ) : OP2 prog c (compareOp .NotEq) (.int i) (.int j) ρ σ Q := fun s v u S r₁ r₂ => by
  cases r₁; cases r₂; exact ne_int ⟨_, σ, .bool _, S, Go.refl _ _ _, h⟩
theorem OP_eqs {i j : Str} (h : Q (.bool (i == j)) σ) : OP2 prog c (compareOp .Eq) (.str i) (.str j) ρ σ Q := fun s v u S r₁ r₂ => by
  cases r₁; cases r₂; exact eq_str ⟨_, σ, .bool _, S, Go.refl _ _ _, h⟩
theorem OPb_bool {b : Bool} {Q : Bool → St → Prop} (h : Q b σ) : OPb prog c truthy (.bool b) ρ σ Q := fun s v S r₁ => by
  cases r₁; exact wpAny_truthy_bool ⟨σ, S, Go.refl _ _ _, h⟩
theorem OPb_list {a : Addr} {vs : List V} {Q : Bool → St → Prop} (ha : σ a = some (.list vs)) (hz : vs.length ≤ 1000000) (h : Q (!vs.isEmpty) σ) : OPb prog c truthy (.loc a) ρ σ Q := fun s v S r₁ => by
  cases r₁
  obtain ⟨_, _, items, hl, hv⟩ := S.obj _ _ ha
  have hs : items.size = vs.length := by rw [← hv.length, Array.length_toList]
  refine wpAny_truthy_list hl.isList (by rw [hs]; omega) ⟨σ, S.toks _, Go.toks _ _ _, ?_⟩
  have : items.isEmpty = vs.isEmpty := by
    cases vs with
    | nil => simp at hs ⊢; exact hs
    | cons x xs => simp at hs ⊢; intro e; rw [e] at hs; simp at hs
  rw [this]; exact h
end
end RH
set_option Elab.async false
set_option maxRecDepth 10000
set_option linter.all false
namespace RH
open PySem PySem.W PySem.Calls PyProof.Rows

section
variable {prog : Program} {w : World} {K : Frag} {c : Cx w K} {ρ : Loc} {σ : St} {env : Env} {Q : Fl → Loc → St → Prop}

theorem EnvOk.plain (he : EnvOk c env) : (env.scope.kind == .class || (env.scope.kind == .module && env.locals != env.globals)) = false := by rw [he.kd]; rfl

theorem EX.mono {t : Sem Flow} {Q' : Fl → Loc → St → Prop} (h : EX prog c t ρ σ Q) (k : ∀ f ρ' σ', Q f ρ' σ' → Q' f ρ' σ') : EX prog c t ρ σ Q' :=
  fun s S => h.run S fun f _ fl ρ' σ' a b g q => ⟨fl, ρ', σ', a, b, g, k _ _ _ q⟩
/-- forget names -/
theorem EX.sub {t : Sem Flow} {ρ' : Loc} (hs : ∀ x V, lget ρ' x = some V → lget ρ x = some V) (h : EX prog c t ρ' σ Q) : EX prog c t ρ σ Q := fun s S => h s (S.sub hs)

theorem store_local {x : Str} {v : Value} {V : V} {s : Shared} {P : Unit → Shared → Prop} {E : Value → Shared → Prop} (he : EnvOk c env) (hk : env.kindOf x = some .local) (S : Sim prog c ρ σ s) (r : VR s.heap v V)
    (k : ∀ s', Sim prog c (lset ρ x V) σ s' → Go c.L σ s σ s' → P () s') : wpAny (model prog w) c.A (storeName env x v) P E s := by
  obtain ⟨m, F, R⟩ := S.loc
  exact wpAny_storeName_local hk (he.L ▸ F.ns) (fun h' hn hs => by
    rw [he.L] at hn hs
    exact k _ (S.store F R r _ hs hn) (Go.store S _ hs)) he.plain
theorem store_cell {x : Str} {v : Value} {V : V} {a : Addr} {u : Option RH.V} {s : Shared} {P : Unit → Shared → Prop} {E : Value → Shared → Prop} (he : EnvOk c env) (hk : env.kindOf x = some .cell) (hc : env.cells.lookup x = some a) (ha : σ a = some (.cell u)) (S : Sim prog c ρ σ s) (r : VR s.heap v V)
    (k : ∀ s', Sim prog c ρ (upd σ a (.cell (some V))) s' → Go c.L σ s (upd σ a (.cell (some V))) s' → P () s') : wpAny (model prog w) c.A (storeName env x v) P E s := by
  obtain ⟨hL, h0, o, u', ho, hd, _⟩ := S.obj _ _ ha
  refine wpAny_storeName_cell he.kd hk hc ⟨o, ho, hd⟩ fun h' hi hs => ?_
  obtain ⟨o', ho', hd'⟩ := hi
  have tk : TK s.heap h' := tk_of_same hs ho fun ⟨_, _, _, e⟩ => by rw [hd] at e; cases e
  exact k _ (S.change ha hs (.cell (some V)) _ ⟨o', some v, ho', hd', r.mono tk⟩) (Go.change S ha hs _ _)

theorem EX_nil (h : Q .next ρ σ) : EX prog c (execs [] env) ρ σ Q := fun s S => wpAny_execs_nil ⟨.next, ρ, σ, trivial, S, Go.refl _ _ _, h⟩
def thenX (prog : Program) (c : Cx w K) (env : Env) (rest : List Stmt) (Q : Fl → Loc → St → Prop) : Fl → Loc → St → Prop
  | .next, ρ, σ => EX prog c (execs rest env) ρ σ Q
  | .brk, ρ, σ => Q .brk ρ σ
  | .cont, ρ, σ => Q .cont ρ σ
  | .ret v, ρ, σ => Q (.ret v) ρ σ
theorem FR_next {h : Heap} {fl : Fl} (r : FR h .next fl) : fl = .next := by cases fl <;> first | rfl | exact r.elim
theorem FR_brk {h : Heap} {fl : Fl} (r : FR h .brk fl) : fl = .brk := by cases fl <;> first | rfl | exact r.elim
theorem FR_cont {h : Heap} {fl : Fl} (r : FR h .cont fl) : fl = .cont := by cases fl <;> first | rfl | exact r.elim
theorem FR_ret {h : Heap} {v : Value} {fl : Fl} (r : FR h (.ret v) fl) : ∃ V, fl = .ret V ∧ VR h v V := by cases fl <;> first | exact ⟨_, rfl, r⟩ | exact r.elim
theorem EX_cons {st : Stmt} {rest : List Stmt} (h : EX prog c (exec st env) ρ σ (thenX prog c env rest Q)) : EX prog c (execs (st :: rest) env) ρ σ Q := fun s S =>
  wpAny_execs_cons (h.run S fun f s₁ fl ρ₁ σ₁ r S₁ g₁ q => by
    cases f with
    | next => rw [FR_next r] at q; exact EX.run q S₁ fun f₂ s₂ fl₂ ρ₂ σ₂ r₂ S₂ g₂ q₂ => ⟨fl₂, ρ₂, σ₂, r₂, S₂, g₁.trans g₂, q₂⟩
    | brk => have e := FR_brk r; subst e; exact ⟨.brk, ρ₁, σ₁, trivial, S₁, g₁, q⟩
    | cont => have e := FR_cont r; subst e; exact ⟨.cont, ρ₁, σ₁, trivial, S₁, g₁, q⟩
    | ret v => obtain ⟨V, e, r'⟩ := FR_ret r; subst e; exact ⟨.ret V, ρ₁, σ₁, r', S₁, g₁, q⟩)

theorem EX_Expr {e : PySem.Expr} {pos : Pos} (hi : interactive env = false) (hs : swapsWith e none pos.line env = pure false)
    (h : EV prog c (eval e env) ρ σ fun _ σ₁ => Q .next ρ σ₁) : EX prog c (exec (.Expr e pos) env) ρ σ Q := fun s S =>
  wpAny_Expr_any (h.run S fun v s₁ V σ₁ r S₁ g q => ⟨.next, ρ, σ₁, trivial, S₁, g, q⟩) hi hs
theorem EX_Name {x : Str} {pos' pos : Pos} {value : PySem.Expr} (he : EnvOk c env) (hk : env.kindOf x = some .local) (hs : swapsWith value (some (.Name x pos')) pos.line env = pure false)
    (h : EV prog c (eval value env) ρ σ fun V σ₁ => Q .next (lset ρ x V) σ₁) : EX prog c (exec (.Assign [.Name x pos'] value pos) env) ρ σ Q := fun s S =>
  wpAny_Assign_Name (h.run S fun v s₁ V σ₁ r S₁ g q => store_local he hk S₁ r fun s₂ S₂ g₂ => ⟨.next, _, σ₁, trivial, S₂, g.trans g₂, q⟩) hs
theorem EX_NameC {x : Str} {pos' pos : Pos} {value : PySem.Expr} {a : Addr} (he : EnvOk c env) (hk : env.kindOf x = some .cell) (hc : env.cells.lookup x = some a) (hs : swapsWith value (some (.Name x pos')) pos.line env = pure false)
    (h : EV prog c (eval value env) ρ σ fun V σ₁ => ∃ u, σ₁ a = some (.cell u) ∧ Q .next ρ (upd σ₁ a (.cell (some V)))) : EX prog c (exec (.Assign [.Name x pos'] value pos) env) ρ σ Q := fun s S =>
  wpAny_Assign_Name (h.run S fun v s₁ V σ₁ r S₁ g ⟨u, ha, q⟩ => store_cell he hk hc ha S₁ r fun s₂ S₂ g₂ => ⟨.next, _, _, trivial, S₂, g.trans g₂, q⟩) hs
theorem EX_Aug {x : Str} {pos' pos : Pos} {value : PySem.Expr} {i : Int} (he : EnvOk c env) (hk : env.kindOf x = some .local) (hx : lget ρ x = some (.int i))
    (h : EV prog c (eval value env) ρ σ fun V σ₁ => ∃ j, V = .int j ∧ Q .next (lset ρ x (.int (i + j))) σ₁) : EX prog c (exec (.AugAssign (.Name x pos') .Add value pos) env) ρ σ Q := fun s S => by
  obtain ⟨m, F, R⟩ := S.loc
  obtain ⟨v, hm, r⟩ := R _ _ hx
  cases r
  refine wpAny_AugAssign_Name (wpAny_loadName_local he.kd hk (he.L ▸ F.ns) hm (h.run S fun u s₁ V σ₁ r₁ S₁ g₁ ⟨j, e, q⟩ => ?_))
  subst e; cases r₁
  exact iadd_int (store_local he hk (S₁.toks _) (.int _ _) fun s₂ S₂ g₂ => ⟨.next, _, σ₁, trivial, S₂, (g₁.trans (Go.toks _ _ _)).trans g₂, q⟩)

theorem EX_If {test : PySem.Expr} {body orelse : List Stmt} {pos : Pos}
    (h : TR prog c (isTrue test env (eval test env)) ρ σ fun b σ₁ => if b then EX prog c (execs body env) ρ σ₁ Q else EX prog c (execs orelse env) ρ σ₁ Q) :
    EX prog c (exec (.If test body orelse pos) env) ρ σ Q := fun s S =>
  wpAny_If (h.run S fun b s₁ σ₁ S₁ g₁ h₁ => by
    cases b
    · exact EX.run h₁ S₁ fun f₂ s₂ fl₂ ρ₂ σ₂ r₂ S₂ g₂ q₂ => ⟨fl₂, ρ₂, σ₂, r₂, S₂, g₁.trans g₂, q₂⟩
    · exact EX.run h₁ S₁ fun f₂ s₂ fl₂ ρ₂ σ₂ r₂ S₂ g₂ q₂ => ⟨fl₂, ρ₂, σ₂, r₂, S₂, g₁.trans g₂, q₂⟩)
theorem EX_Return {e : PySem.Expr} {pos : Pos} (h : EV prog c (eval e env) ρ σ fun V σ₁ => Q (.ret V) ρ σ₁) : EX prog c (exec (.Return (some e) pos) env) ρ σ Q := fun s S =>
  wpAny_Return_some (h.run S fun v s₁ V σ₁ r S₁ g q => ⟨.ret V, ρ, σ₁, r, S₁, g, q⟩)
theorem EX_Return0 {pos : Pos} (h : Q (.ret .none) ρ σ) : EX prog c (exec (.Return none pos) env) ρ σ Q := fun s S =>
  wpAny_Return_none ⟨.ret .none, ρ, σ, .none, S, Go.refl _ _ _, h⟩
theorem EX_Break {pos : Pos} (h : Q .brk ρ σ) : EX prog c (exec (.Break pos) env) ρ σ Q := fun s S => wpAny_Break ⟨.brk, ρ, σ, trivial, S, Go.refl _ _ _, h⟩
theorem EX_Continue {pos : Pos} (h : Q .cont ρ σ) : EX prog c (exec (.Continue pos) env) ρ σ Q := fun s S => wpAny_Continue ⟨.cont, ρ, σ, trivial, S, Go.refl _ _ _, h⟩

/-- two names at once -/
theorem EX_Tuple2 {x y : Str} {px py pos' pos : Pos} {k : Nat} {value : PySem.Expr} (he : EnvOk c env) (hkx : env.kindOf x = some .local) (hky : env.kindOf y = some .local)
    (hs : swapsWithSole [.Tuple [.Name x px, .Name y py] k pos'] value pos.line env = pure false) (hw : swappedStores [.Tuple [.Name x px, .Name y py] k pos'] value env = pure none)
    (h : EV prog c (eval value env) ρ σ fun V σ₁ => ∃ a b, V = .tup [a, b] ∧ Q .next (lset (lset ρ x a) y b) σ₁) : EX prog c (exec (.Assign [.Tuple [.Name x px, .Name y py] k pos'] value pos) env) ρ σ Q := fun s S => by
  refine Assign_Tuple (h.run S fun v s₁ V σ₁ r S₁ g₁ ⟨a, b, e, q⟩ => ?_) hs hw
  subst e
  cases r with
  | @tup t items _ ht hv =>
    have hsz : items.size = 2 := by have := hv.length; simpa using this
    refine wpAny_assign_Tuple c.hh ht (by rw [hsz]; rfl) rfl fun h' k' => ?_
    have k := ext_of_fresh k'
    obtain ⟨l⟩ := items
    cases hv with
    | cons ra hv => cases hv with
      | cons rb hv =>
        cases hv
        show wpAny _ _ (assignInOrder [assign (.Name x px) env, assign (.Name y py) env] [_, _]) _ _ _
        refine wpAny_assignInOrder_more (wpAny_assign_Name (store_local he hkx (S₁.ext s₁.toks k) (ra.mono (tk_of_ext k)) fun s₂ S₂ g₂ => ?_))
        refine wpAny_assignInOrder_more (wpAny_assign_Name (store_local he hky S₂ ((rb.mono (tk_of_ext k)).mono g₂.tk) fun s₃ S₃ g₃ => ?_))
        exact wpAny_assignInOrder_none ⟨.next, _, σ₁, trivial, S₃, ((g₁.trans (Go.ext _ _ _ k)).trans g₂).trans g₃, q⟩

/-! while -/
def loopX (P : Loc → St → Prop) (Q : Fl → Loc → St → Prop) : Fl → Loc → St → Prop
  | .next, ρ, σ => P ρ σ
  | .cont, ρ, σ => P ρ σ
  | .brk, ρ, σ => Q .next ρ σ
  | .ret v, ρ, σ => Q (.ret v) ρ σ
def WH (prog : Program) (c : Cx w K) (test : PySem.Expr) (body : List Stmt) (env : Env) (ρ : Loc) (σ : St) (Q : Fl → Loc → St → Prop) : Prop :=
  ∀ s, Sim prog c ρ σ s → codeAny (model prog w) c.A (.whileLoop test body [] env) (fun r s' => match r with
    | .ok f => ∃ fl ρ' σ', FR s'.heap f fl ∧ Sim prog c ρ' σ' s' ∧ Go c.L σ s σ' s' ∧ Q fl ρ' σ'
    | .error _ => False) s
theorem WH.sub {test : PySem.Expr} {body : List Stmt} {ρ' : Loc} (hs : ∀ x V, lget ρ' x = some V → lget ρ x = some V) (h : WH prog c test body env ρ' σ Q) : WH prog c test body env ρ σ Q := fun s S => h s (S.sub hs)
theorem WH_step {test : PySem.Expr} {body : List Stmt} 
    (h : TR prog c (isTrue test env (eval test env)) ρ σ fun b σ₁ => if b then EX prog c (execs body env) ρ σ₁ (loopX (fun ρ₂ σ₂ => WH prog c test body env ρ₂ σ₂ Q) Q) else Q .next ρ σ₁) :
    WH prog c test body env ρ σ Q := fun s S => by
  refine codeAny_of_tree ?_
  show wpAny _ c.A ((whileTurn test body [] env).onRaise (fun x => do noteFrame x env; theTreesLotGoes x)) _ _ s
  refine wpAny_onRaise (wpAny_mono (Q := _) (E := fun _ _ => False) ?_ (fun _ _ x => x) fun _ _ x => x.elim)
  simp only [whileTurn]
  refine wpAny_bind (h.run S fun b s₁ σ₁ S₁ g₁ h₁ => ?_)
  cases b with
  | false =>
    simp only [Bool.false_eq_true, if_false] at h₁ ⊢
    exact wpAny_bind (wpAny_execs_nil (wpAny_pure ⟨.next, ρ, σ₁, trivial, S₁, g₁, h₁⟩))
  | true =>
    simp only [if_true] at h₁ ⊢
    refine wpAny_bind (EX.run h₁ S₁ fun f s₂ fl ρ₂ σ₂ r S₂ g₂ q => ?_)
    have nx : WH prog c test body env ρ₂ σ₂ Q → codeAny (model prog w) c.A (.whileLoop test body [] env) (fun r s' => match r with
        | .ok f => ∃ fl ρ' σ', FR s'.heap f fl ∧ Sim prog c ρ' σ' s' ∧ Go c.L σ s σ' s' ∧ Q fl ρ' σ'
        | .error _ => False) s₂ := fun W => codeAny_mono (W s₂ S₂) fun r s' hr => by
      cases r with
      | ok f => obtain ⟨fl, ρ', σ', a, b, g, q⟩ := hr; exact ⟨fl, ρ', σ', a, b, (g₁.trans g₂).trans g, q⟩
      | error e => exact hr
    cases f with
    | next => rw [FR_next r] at q; exact wpAny_pure ⟨rfl, nx q⟩
    | cont => rw [FR_cont r] at q; exact wpAny_pure ⟨rfl, nx q⟩
    | brk => rw [FR_brk r] at q; exact wpAny_pure ⟨.next, ρ₂, σ₂, trivial, S₂, g₁.trans g₂, q⟩
    | ret v => obtain ⟨V, e, r'⟩ := FR_ret r; subst e; exact wpAny_pure ⟨.ret V, ρ₂, σ₂, r', S₂, g₁.trans g₂, q⟩
theorem EX_While {test : PySem.Expr} {body : List Stmt} {pos : Pos} (h : WH prog c test body env ρ σ Q) : EX prog c (exec (.While test body [] pos) env) ρ σ Q := fun s S =>
  wpAny_While (codeAny_mono (h s S) fun r s' hr => by
    cases r with
    | ok f => exact hr
    | error e => exact hr.elim)
end
end RH
set_option Elab.async false
set_option maxRecDepth 10000
set_option linter.all false
namespace RH
open PySem PySem.W PySem.Calls PyProof.Rows

/-! the hidden part -/
def domL (σ : St) (h : Heap) : List Addr := (List.range h.objs.size).filter fun a => (σ a).isSome
def hideS (σ : St) (h : Heap) : Heap := hideAll h (domL σ h)
theorem hideS_size (σ : St) (h : Heap) : (hideS σ h).objs.size = h.objs.size := hideAll_size _ _
theorem hideS_some {σ : St} {h : Heap} {b : Addr} {o : Obj} (e : h.get? b = some o) (n : σ b = none) : (hideS σ h).get? b = some o :=
  hideAll_get _ e fun m => by have := (List.mem_filter.mp m).2; rw [n] at this; cases this
theorem hideS_none {σ : St} {h : Heap} {b : Addr} (n : σ b ≠ none) : (hideS σ h).get? b = none := by
  by_cases hb : b < h.objs.size
  · exact hideAll_none _ (List.mem_filter.mpr ⟨List.mem_range.mpr hb, by cases q : σ b with | none => exact absurd q n | some _ => rfl⟩)
  · exact Heap.get?_none_of_le (by rw [hideS_size]; exact Nat.not_lt.mp hb)
theorem of_hideS {σ : St} {h : Heap} {b : Addr} {o : Obj} (e : (hideS σ h).get? b = some o) : h.get? b = some o := of_hideAll _ e

section
variable {prog : Program} {w : World} {K : Frag} {c : Cx w K} {ρ : Loc} {σ : St} {env : Env} {Q : Fl → Loc → St → Prop}

/-- back from a callee, or from a comprehension -/
theorem Sim.back {c' : Cx w K} {ρ' : Loc} {σ' : St} {s s' : Shared} (S : Sim prog c ρ σ s) (k1 : ∀ b o, s.heap.get? b = some o → σ b = none → c'.h₀.get? b = some o) (S' : Sim prog c' ρ' σ' s')
    (st : ∃ h tk, s' = { s with heap := h, toks := tk }) : Sim prog c ρ σ' s' ∧ Go c.L σ s σ' s' := by
  obtain ⟨m', F'⟩ := S'.fr
  obtain ⟨m, F, R⟩ := S.loc
  have k2 : ∀ b o, s.heap.get? b = some o → σ b = none → s'.heap.get? b = some o := fun b o e n => F'.keep b o (k1 b o e n)
  have tk : TK s.heap s'.heap := fun b items ⟨o, e, hc, n, hd⟩ => by
    refine ⟨o, k2 b o e ?_, hc, n, hd⟩
    cases q : σ b with
    | none => rfl
    | some ao =>
      obtain ⟨ob, ho, hn⟩ := (S.obj b ao q).2.2.nt
      rw [e] at ho; cases ho
      exact absurd ⟨hc, items, n, hd⟩ hn
  have hσL : σ c.L = none := by
    cases q : σ c.L with
    | none => rfl
    | some ao => exact absurd rfl (S.obj _ _ q).1
  obtain ⟨oL, es, ep, hL, r⟩ := F.ns
  have new : ∀ b, σ' b ≠ none → c'.h₀.get? b = none := fun b h => by
    cases q : σ' b with
    | none => exact absurd q h
    | some ao => exact (S'.obj b ao q).2.1
  refine ⟨⟨⟨m, ⟨⟨oL, es, ep, k2 _ _ hL hσL, r⟩, fun b o e => k2 b o (F.keep b o e) ?_, F.above⟩, fun x V e => let ⟨v, hv, rr⟩ := R x V e; ⟨v, hv, rr.mono tk⟩⟩, fun a ao e => ⟨?_, ?_, (S'.obj a ao e).2.2⟩⟩, st, fun b o n _ e => k2 b o e n, tk, fun b n n' => ⟨?_, ?_⟩⟩
  · cases q : σ b with
    | none => rfl
    | some ao => have := (S.obj b ao q).2.1; rw [e] at this; cases this
  · intro z
    have := new a (by rw [e]; simp)
    rw [z, k1 _ _ hL hσL] at this; cases this
  · cases q : c.h₀.get? a with
    | none => rfl
    | some o =>
      have h1 := F.keep a o q
      have h2 : σ a = none := by
        cases z : σ a with
        | none => rfl
        | some ao => have := (S.obj a ao z).2.1; rw [q] at this; cases this
      have := new a (by rw [e]; simp)
      rw [k1 _ _ h1 h2] at this; cases this
  · intro z
    have := new b n'
    rw [z, k1 _ _ hL hσL] at this; cases this
  · cases q : s.heap.get? b with
    | none => rfl
    | some o => have := new b n'; rw [k1 _ _ q n] at this; cases this

/-! iterators -/
structure ITR (prog : Program) (w : World) (A : Around) (I : Addr) (xs : List V) (fact : Nat → St → Heap → Prop) (ok : St → Prop) : Prop where
  there : ∀ i σ h, fact i σ h → ∃ ob, h.get? I = some ob ∧ NT ob
  item : ∀ i x σ (s : Shared) (P : Option Value → Shared → Prop) (E : Value → Shared → Prop), xs[i]? = some x → fact i σ s.heap → (∀ a o, σ a = some o → OR prog w s.heap a o) →
    (∀ v h' tk, VR h' v x → fact (i + 1) σ h' → Heap.ExtBut I s.heap h' → P (some v) { s with heap := h', toks := tk }) → wpAny (model prog w) A (pyNext (.ref I)) P E s
  done : ∀ σ (s : Shared) (P : Option Value → Shared → Prop) (E : Value → Shared → Prop), fact xs.length σ s.heap → (∀ a o, σ a = some o → OR prog w s.heap a o) →
    (∀ h' tk, Heap.ExtBut I s.heap h' → P none { s with heap := h', toks := tk }) → wpAny (model prog w) A (pyNext (.ref I)) P E s
  frame : ∀ i σ σ' h h', fact i σ h → ok σ' → (∀ o, h.get? I = some o → h'.get? I = some o) → TK h h' → fact i σ' h'
  self : ∀ i σ (s : Shared) (P : Value → Shared → Prop) (E : Value → Shared → Prop), fact i σ s.heap → P (.ref I) s → wpAny (model prog w) A (pyIter (.ref I)) P E s

def factL (I a : Addr) (xs : List V) (i : Nat) (σ : St) (h : Heap) : Prop := h.IsListIter I a i ∧ σ a = some (.list xs)
def factT (I a : Addr) (xs : List V) (i : Nat) (σ : St) (h : Heap) : Prop := h.IsTupleIter I a i ∧ ∃ items, h.IsTuple a items ∧ VRs h items.toList xs
def factR (I : Addr) (n : Nat) (i : Nat) (σ : St) (h : Heap) : Prop := IsRangeIter h I (i : Int) ((n : Int) - i) 1

theorem items_get {h : Heap} {items : Array Value} {xs : List V} (r : VRs h items.toList xs) {i : Nat} {x : V} (e : xs[i]? = some x) : ∃ v, items[i]? = some v ∧ VR h v x := by
  obtain ⟨v, hv, rv⟩ := r.get e
  exact ⟨v, by simpa using hv, rv⟩

theorem ITR.list {A : Around} (hh : A.handled = none) (I a : Addr) (xs : List V) : ITR prog w A I xs (factL I a xs) (fun σ => σ a = some (.list xs)) where
  there := fun i σ h ⟨⟨o, ho, hc, hd⟩, _⟩ => ⟨o, ho, fun ⟨e, _⟩ => by rw [hc] at e; simp at e⟩
  item := fun i x σ s P E hx ⟨hi, ha⟩ hO k => by
    obtain ⟨items, hl, hv⟩ := hO _ _ ha
    obtain ⟨v, he, rv⟩ := items_get hv hx
    refine wpAny_pyNext_list_item hi hl.isList he fun h' hi' hs => k v h' _ ?_ ⟨hi', ha⟩ hs.extBut
    obtain ⟨o, ho, hc, hd⟩ := hi
    exact rv.mono (tk_of_same hs ho fun ⟨e, _⟩ => by rw [hc] at e; simp at e)
  done := fun σ s P E ⟨hi, ha⟩ hO k => by
    obtain ⟨items, hl, hv⟩ := hO _ _ ha
    exact wpAny_pyNext_list_end hh hi hl.isList (by have := hv.length; simp at this; simp [this]) fun h' he => k h' _ he
  frame := fun i σ σ' h h' ⟨⟨o, ho, q⟩, _⟩ ok k _ => ⟨⟨o, k o ho, q⟩, ok⟩
  self := fun i σ s P E ⟨hi, _⟩ h => wpAny_pyIter_listiter hi h

theorem ITR.tuple {A : Around} (hh : A.handled = none) (I a : Addr) (xs : List V) : ITR prog w A I xs (factT I a xs) (fun _ => True) where
  there := fun i σ h ⟨⟨o, ho, hc, hd⟩, _⟩ => ⟨o, ho, fun ⟨e, _⟩ => by rw [hc] at e; simp at e⟩
  item := fun i x σ s P E hx ⟨hi, items, ht, hv⟩ hO k => by
    obtain ⟨v, he, rv⟩ := items_get hv hx
    refine wpAny_pyNext_tuple_item hi ht he fun h' hi' hs => ?_
    obtain ⟨o, ho, hc, hd⟩ := hi
    have tk : TK s.heap h' := tk_of_same hs ho fun ⟨e, _⟩ => by rw [hc] at e; simp at e
    exact k v h' _ (rv.mono tk) ⟨hi', items, tk _ _ ht, hv.mono tk⟩ hs.extBut
  done := fun σ s P E ⟨hi, items, ht, hv⟩ hO k =>
    wpAny_pyNext_tuple_end hh hi ht (by have := hv.length; simp at this; simp [this]) fun h' he => k h' _ he
  frame := fun i σ σ' h h' ⟨⟨o, ho, q⟩, items, ht, hv⟩ ok k tk => ⟨⟨o, k o ho, q⟩, items, tk _ _ ht, hv.mono tk⟩
  self := fun i σ s P E ⟨hi, _, ht, _⟩ h => (Walks.tuple hh I a (fun e => by
      obtain ⟨o, ho, hc, _⟩ := hi
      obtain ⟨o', ho', hc', _⟩ := ht
      subst e; rw [ho] at ho'; cases ho'; rw [hc] at hc'; simp at hc') _).self i _ _ _ ⟨hi, ht⟩ h

def rangeV (n : Nat) : List V := (List.range n).map fun i => V.int (i : Nat)
theorem ITR.range {A : Around} (hh : A.handled = none) (I : Addr) (n : Nat) : ITR prog w A I (rangeV n) (factR I n) (fun _ => True) where
  there := fun i σ h e => ⟨_, e, fun ⟨e, _⟩ => by simp at e⟩
  item := fun i x σ s P E hx hi hO k => by
    have hi' : i < n ∧ x = .int (i : Nat) := by
      unfold rangeV at hx
      rw [List.getElem?_map] at hx
      by_cases h : i < n
      · rw [List.getElem?_range h] at hx; simp at hx; exact ⟨h, hx.symm⟩
      · rw [List.getElem?_eq_none (by simpa using h)] at hx; cases hx
    obtain ⟨hlt, rfl⟩ := hi'
    refine wpAny_pyNext_range_item hi (by omega) fun h' e hs => k _ h' _ (.int _ _) ?_ hs.extBut
    show IsRangeIter h' I ((i + 1 : Nat) : Int) ((n : Int) - ((i + 1 : Nat) : Int)) 1
    have e1 : ((i + 1 : Nat) : Int) = (i : Int) + 1 := by omega
    have e2 : (n : Int) - ((i : Int) + 1) = (n : Int) - i - 1 := by omega
    rw [e1, e2]; exact e
  done := fun σ s P E hi hO k => by
    have hl : (rangeV n).length = n := by simp [rangeV]
    unfold factR at hi
    rw [hl] at hi
    exact wpAny_pyNext_range_end hh hi (by omega) fun h' he => k h' _ he
  frame := fun i σ σ' h h' e _ k _ => k _ e
  self := fun i σ s P E e h => (Walks.range hh I 0 1 n).self i _ _ _ (by
    show IsRangeIter s.heap I (0 + (i : Nat) * 1) ((n : Int) - (i : Nat)) 1
    rw [show (0 + (i : Int) * 1) = (i : Int) by omega]; exact e) h

/-- what can be walked: from a value to its iterator -/
inductive IsIt (σ : St) : V → List V → (St → Prop) → Prop
  | list {a : Addr} {xs : List V} : σ a = some (.list xs) → IsIt σ (.loc a) xs (fun σ' => σ' a = some (.list xs))
  | tuple {xs : List V} : IsIt σ (.tup xs) xs (fun _ => True)
  | range {a : Addr} {n : Nat} {t u v : Tok} : n ≤ 1000000 → σ a = some (.raw { cls := .type "range", data := .fields #[.int 0 t, .int (n : Nat) u, .int 1 v] }) → IsIt σ (.loc a) (rangeV n) (fun _ => True)

theorem range_small {n : Nat} (h : n ≤ 1000000) : Builtin.Range.small 0 (n : Int) 1 = true ∧ Builtin.Range.rangeSize 0 (n : Int) 1 = n := by
  have e : Builtin.Range.rangeSize 0 (n : Int) 1 = n := by
    unfold Builtin.Range.rangeSize
    by_cases h0 : n = 0
    · subst h0; rfl
    · simp; omega
  refine ⟨?_, e⟩
  unfold Builtin.Range.small
  rw [e]
  simp [Builtin.Range.rangeFitsLong]
  omega

theorem pyIter_is {X : V} {xs : List V} {ok : St → Prop} {v : Value} {s : Shared} {P : Value → Shared → Prop} {E : Value → Shared → Prop} (hi : IsIt σ X xs ok) (S : Sim prog c ρ σ s) (r : VR s.heap v X)
    (k : ∀ o fact, o.isFreed = false → ITR prog w c.A s.heap.objs.size xs fact ok → fact 0 σ (s.heap.push o) → P (.ref s.heap.objs.size) { s with heap := s.heap.push o }) : wpAny (model prog w) c.A (pyIter v) P E s := by
  cases hi with
  | @list a xs ha =>
    cases r
    obtain ⟨_, _, items, hl, hv⟩ := S.obj _ _ ha
    refine wpAny_pyIter_list hl.isList (k _ _ rfl (ITR.list c.hh _ _ _) ⟨⟨_, Heap.get?_push_size _ rfl, rfl, rfl⟩, ha⟩)
  | @tuple xs =>
    cases r with
    | @tup a items _ ht hv =>
      refine wpAny_pyIter_tuple ht (k _ _ rfl (ITR.tuple c.hh _ a _) ⟨⟨_, Heap.get?_push_size _ rfl, rfl, rfl⟩, items, ht.push _, hv.mono (TK.push _ _)⟩)
  | @range a n t u v hn ha =>
    cases r
    obtain ⟨_, _, hr, _⟩ := S.obj _ _ ha
    obtain ⟨h1, h2⟩ := range_small hn
    refine wpAny_pyIter_range (a := 0) (b := (n : Int)) (c := 1) hr h1 ?_
    rw [h2]
    refine k _ _ rfl (ITR.range c.hh _ n) ?_
    show IsRangeIter _ _ ((0 : Nat) : Int) ((n : Int) - ((0 : Nat) : Int)) 1
    rw [show ((n : Int) - ((0 : Nat) : Int)) = (n : Int) by omega]
    exact Heap.get?_push_size _ rfl

/-! for -/
def FB (prog : Program) (c : Cx w K) (x : Str) (body : List Stmt) (env : Env) (ok : St → Prop) : List V → Loc → St → (Fl → Loc → St → Prop) → Prop
  | [], ρ, σ, Q => Q .next ρ σ
  | v :: vs, ρ, σ, Q => EX prog c (execs body env) (lset ρ x v) σ (loopX (fun ρ' σ' => ok σ' ∧ FB prog c x body env ok vs ρ' σ' Q) Q)
theorem FB.sub {x : Str} {body : List Stmt} {ok : St → Prop} : ∀ {vs : List V} {ρ ρ' : Loc}, (∀ y V, lget ρ' y = some V → lget ρ y = some V) → vs ≠ [] → FB prog c x body env ok vs ρ' σ Q → FB prog c x body env ok vs ρ σ Q
  | [], _, _, _, h, _ => absurd rfl h
  | v :: vs, ρ, ρ', hs, _, h => EX.sub (fun y V e => by
      rw [lget_lset] at e ⊢
      split
      · rename_i z; rw [if_pos z] at e; exact e
      · rename_i z; rw [if_neg z] at e; exact hs y V e) h

theorem for_loop {I : Addr} {xs : List V} {fact : Nat → St → Heap → Prop} {ok : St → Prop} {x : Str} {px : Pos} {body : List Stmt} {σ₀ : St} {s₀ : Shared} (W : ITR prog w c.A I xs fact ok) (he : EnvOk c env) (hx : env.kindOf x = some .local) (hI0 : s₀.heap.get? I = none) (hIL : I ≠ c.L) (hIh : c.h₀.get? I = none) :
    ∀ (vs : List V) (i : Nat) (ρ : Loc) (σ : St) (s : Shared), xs.drop i = vs → i ≤ xs.length → Sim prog c ρ σ s → Go c.L σ₀ s₀ σ s → σ I = none → fact i σ s.heap → FB prog c x body env ok vs ρ σ Q →
      codeAny (model prog w) c.A (.forLoop (.Name x px) (.ref I) body [] env) (fun r s' => match r with
        | .ok f => ∃ fl ρ' σ', FR s'.heap f fl ∧ Sim prog c ρ' σ' s' ∧ Go c.L σ₀ s₀ σ' s' ∧ Q fl ρ' σ'
        | .error _ => False) s := by
  intro vs
  induction vs with
  | nil =>
    intro i ρ σ s hd hle S g hσ hf h
    refine codeAny_of_tree ?_
    show wpAny _ c.A ((forTurn (.Name x px) (.ref I) body [] env).onRaise (fun x => do noteFrame x env; theTreesLotGoes x)) _ _ s
    refine wpAny_onRaise (wpAny_mono (Q := _) (E := fun _ _ => False) ?_ (fun _ _ x => x) fun _ _ x => x.elim)
    simp only [forTurn]
    have hi : i ≥ xs.length := by simpa using hd
    have hf' : fact xs.length σ s.heap := by
      have hq : i = xs.length := Nat.le_antisymm hle hi
      exact hq ▸ hf
    obtain ⟨ob, ho, hn⟩ := W.there _ _ _ hf
    refine wpAny_bind (wpAny_standAt (wpAny_bind (wpAny_onRaise (W.done σ s _ _ hf' (fun a o e => (S.obj a o e).2.2) fun h' tk hx' => ?_))))
    exact wpAny_pure ⟨rfl, codeAny_block (wpAny_execs_nil ⟨.next, ρ, σ, trivial, S.but hσ hIL hIh ho hn hx' tk, g.but hI0 ho hn hx' tk, h⟩)⟩
  | cons v vs ih =>
    intro i ρ σ s hd hle S g hσ hf h
    refine codeAny_of_tree ?_
    show wpAny _ c.A ((forTurn (.Name x px) (.ref I) body [] env).onRaise (fun x => do noteFrame x env; theTreesLotGoes x)) _ _ s
    refine wpAny_onRaise (wpAny_mono (Q := _) (E := fun _ _ => False) ?_ (fun _ _ x => x) fun _ _ x => x.elim)
    simp only [forTurn]
    have hv : xs[i]? = some v := by
      have := congrArg (·[0]?) hd
      simpa using this
    have hd' : xs.drop (i + 1) = vs := by
      have := congrArg List.tail hd
      simpa using this
    obtain ⟨ob, ho, hn⟩ := W.there _ _ _ hf
    refine wpAny_bind (wpAny_standAt (wpAny_bind (wpAny_onRaise (W.item i v σ s _ _ hv hf (fun a o e => (S.obj a o e).2.2) fun u h' tk ru hf₁ hx' => ?_))))
    have S₁ := S.but hσ hIL hIh ho hn hx' tk
    have g₁ := g.but hI0 ho hn hx' tk
    refine wpAny_bind (wpAny_of_eq (a := ()) (by rfl) ?_)
    refine wpAny_bind (wpAny_assign_Name (store_local he hx S₁ ru fun s₂ S₂ g₂ => ?_))
    obtain ⟨ob₁, ho₁, hn₁⟩ := W.there _ _ _ hf₁
    refine wpAny_bind (EX.run h S₂ fun f s₃ fl ρ₃ σ₃ r S₃ g₃ q => ?_)
    have g' := (g₁.trans g₂).trans g₃
    have ho₂ := g₂.keep I ob₁ hσ hIL ho₁
    have ho₃ := g₃.keep I ob₁ hσ hIL ho₂
    have hσ₃ : σ₃ I = none := by
      cases q : σ₃ I with
      | none => rfl
      | some ao => exact absurd (g₃.new I hσ (by rw [q]; simp)).2 (by rw [ho₂]; simp)
    have nx : (ok σ₃ ∧ FB prog c x body env ok vs ρ₃ σ₃ Q) → codeAny (model prog w) c.A (.forLoop (.Name x px) (.ref I) body [] env) (fun r s' => match r with
        | .ok f => ∃ fl ρ' σ', FR s'.heap f fl ∧ Sim prog c ρ' σ' s' ∧ Go c.L σ₀ s₀ σ' s' ∧ Q fl ρ' σ'
        | .error _ => False) s₃ := fun ⟨hok, hfb⟩ =>
      ih (i + 1) ρ₃ σ₃ s₃ hd' (Nat.succ_le_of_lt (List.getElem?_eq_some_iff.mp hv).1) S₃ g' hσ₃ (W.frame _ _ _ _ _ hf₁ hok (fun o e => by rw [ho₁] at e; cases e; exact ho₃) (g₂.tk.trans g₃.tk)) hfb
    cases f with
    | next => rw [FR_next r] at q; exact wpAny_pure ⟨rfl, nx q⟩
    | cont => rw [FR_cont r] at q; exact wpAny_pure ⟨rfl, nx q⟩
    | brk => rw [FR_brk r] at q; exact wpAny_pure ⟨.next, ρ₃, σ₃, trivial, S₃, g', q⟩
    | ret v => obtain ⟨V, e, r'⟩ := FR_ret r; subst e; exact wpAny_pure ⟨.ret V, ρ₃, σ₃, r', S₃, g', q⟩

theorem EX_For {x : Str} {px pos : Pos} {iter : PySem.Expr} {body : List Stmt} (he : EnvOk c env) (hx : env.kindOf x = some .local) (hs : ∀ x, foldedSetIterable iter env x = pure x)
    (h : EV prog c (eval iter env) ρ σ fun X σ₁ => ∃ xs ok, IsIt σ₁ X xs ok ∧ FB prog c x body env ok xs ρ σ₁ Q) : EX prog c (exec (.For (.Name x px) iter body [] pos) env) ρ σ Q := fun s S =>
  wpAny_For (h.run S fun v s₁ X σ₁ r S₁ g₁ ⟨xs, ok, hi, hb⟩ => pyIter_is hi S₁ r fun o fact hfr W hf => by
    have S₂ := S₁.pushT o s₁.toks
    refine codeAny_mono (for_loop (σ₀ := σ₁) (s₀ := s₁) W he hx (Heap.get?_none_of_le (Nat.le_refl _)) S₁.sizeNe S₁.size₀ xs 0 ρ σ₁ _ rfl (Nat.zero_le _) S₂ (Go.pushT _ _ _ _) S₁.freshAt hf hb) fun r s' hr => ?_
    cases r with
    | ok f => obtain ⟨fl, ρ', σ', a, b, g, q⟩ := hr; exact ⟨fl, ρ', σ', a, b, g₁.trans g, q⟩
    | error e => exact hr.elim) hs
end
end RH
set_option Elab.async false
set_option maxRecDepth 10000
set_option linter.all false
namespace RH
open PySem PySem.W PySem.Calls PyProof.Rows

def retV : Fl → V
  | .ret v => v
  | _ => .none
def locV (kindOf : Str → Option NameKind) : List (Str × V) → Loc → Loc
  | [], ρ => ρ
  | (n, v) :: r, ρ => locV kindOf r (if kindOf n = some .local then lset ρ n v else ρ)
def celV (kindOf : Str → Option NameKind) : List (Str × V) → (Str → Option V) → Str → Option V
  | [], m => m
  | (n, v) :: r, m => celV kindOf r (if kindOf n = some .local then m else fun y => if y = n then some v else m y)
def cellS (cv : Str → Option V) (σ : St) : List (Str × Addr) → St
  | [] => σ
  | (n, a) :: r => upd (cellS cv σ r) a (.cell (cv n))

theorem LR_set {h : Heap} {ρ : Loc} {m : Str → Option Value} {n : Str} {v : Value} {x : V} (R : LR h ρ m) (r : VR h v x) : LR h (lset ρ n x) (fun y => if y = n then some v else m y) := fun y V e => by
  rw [lget_lset] at e
  by_cases q : y = n
  · rw [if_pos q] at e; cases e; exact ⟨v, if_pos q, r⟩
  · rw [if_neg q] at e; obtain ⟨u, hu, ru⟩ := R y V e; exact ⟨u, (if_neg q).trans hu, ru⟩
theorem LR_bind {h : Heap} (kindOf : Str → Option NameKind) : ∀ (names : List Str) (vs : List Value) (xs : List V) (ρ : Loc) (m : Str → Option Value), VRs h vs xs → LR h ρ m → LR h (locV kindOf (names.zip xs) ρ) (bindL kindOf (names.zip vs) m)
  | [], _, _, _, _, _, R => by simpa [locV, bindL] using R
  | n :: ns, _, _, ρ, m, .nil, R => by simpa [locV, bindL] using R
  | n :: ns, _, _, ρ, m, .cons a b, R => by
    simp only [List.zip_cons_cons, locV, bindL]
    split
    · exact LR_bind kindOf ns _ _ _ _ b (LR_set R a)
    · exact LR_bind kindOf ns _ _ _ _ b R
theorem CR_bind {h : Heap} (kindOf : Str → Option NameKind) : ∀ (names : List Str) (vs : List Value) (xs : List V) (cv : Str → Option V) (m : Str → Option Value), VRs h vs xs → (∀ n, CR h (m n) (cv n)) → ∀ n, CR h (bindC kindOf (names.zip vs) m n) (celV kindOf (names.zip xs) cv n)
  | [], _, _, _, _, _, R => by simpa [celV, bindC] using R
  | n :: ns, _, _, _, _, .nil, R => by simpa [celV, bindC] using R
  | n :: ns, _, _, cv, m, .cons a b, R => by
    simp only [List.zip_cons_cons, celV, bindC]
    split
    · exact CR_bind kindOf ns _ _ _ _ b R
    · refine CR_bind kindOf ns _ _ _ _ b fun y => ?_
      by_cases q : y = n
      · simp only [if_pos q]; exact a
      · simp only [if_neg q]; exact R y

section
variable {prog : Program} {w : World} {K : Frag} {c : Cx w K} {ρ : Loc} {σ : St} {env : Env} {Q : V → St → Prop}

theorem Sim.hidden {s : Shared} (S : Sim prog c ρ σ s) : ∃ m, Fr c.h₀ c.L (hideS σ s.heap) m := by
  obtain ⟨m, F⟩ := S.fr
  obtain ⟨oL, es, ep, hL, r⟩ := F.ns
  have n : ∀ b o, c.h₀.get? b = some o → σ b = none := fun b o e => by
    cases q : σ b with
    | none => rfl
    | some ao => have := (S.obj _ _ q).2.1; rw [e] at this; cases this
  have nL : σ c.L = none := by
    cases q : σ c.L with
    | none => rfl
    | some ao => exact absurd rfl (S.obj _ _ q).1
  exact ⟨m, ⟨oL, es, ep, hideS_some hL nL, r⟩, fun b o e => hideS_some (F.keep b o e) (n b o e), F.above⟩

/-- a call by its address -/
def CF (prog : Program) (c : Cx w K) (f : Addr) (xs : List V) (ρ : Loc) (σ : St) (Q : V → St → Prop) : Prop :=
  ∀ s vs, Sim prog c ρ σ s → VRs s.heap vs xs → codeAny (model prog w) c.A (.call (.ref f) ⟨vs, []⟩) (fun r s' => match r with
    | .ok (.ret v) => ∃ V σ', VR s'.heap v V ∧ Sim prog c ρ σ' s' ∧ Go c.L σ s σ' s' ∧ Q V σ'
    | .ok _ => False
    | .error _ => False) s
theorem CF.op {f : Addr} {xs : List V} (h : CF prog c f xs ρ σ Q) : OPn prog c (fun vs => call (.ref f) vs) xs ρ σ Q := fun s vs S rs => wpAny_call (h s vs S rs)
theorem CF.mono {f : Addr} {xs : List V} {Q' : V → St → Prop} (h : CF prog c f xs ρ σ Q) (k : ∀ v σ', Q v σ' → Q' v σ') : CF prog c f xs ρ σ Q' := fun s vs S rs => codeAny_mono (h s vs S rs) fun r s' hr => by
  cases r with
  | error e => exact hr
  | ok fl => cases fl with
    | ret v => obtain ⟨V, σ', a, b, g, q⟩ := hr; exact ⟨V, σ', a, b, g, k _ _ q⟩
    | next => exact hr
    | brk => exact hr
    | cont => exact hr

/-- the callee's context -/
def Cx.callee (c : Cx w K) (h₀ : Heap) (hF : ∃ m, Fr c.h₀ c.L h₀ m) (env : Env) (L : Addr) (hf : env.frame = some L) (hk : env.scope.kind = .function) (d : Nat) (hd : d + 1 = c.d) : Cx w K where
  A := c.A.deeper env
  L := L
  h₀ := h₀
  d := d
  p := c.p
  loose := c.loose
  mean := c.mean
  mg := c.mg
  mb := c.mb
  base := c.base
  frs := env :: c.frs
  hA := by show c.A.frames.map _ = _; rw [c.hA]; rfl
  BB := fun g m F => pushX (by obtain ⟨m, F⟩ := hF; exact c.BB h₀ m F) F hf hk
  X := by obtain ⟨m, F⟩ := hF; exact c.X.keeps F.keep
  T := by obtain ⟨m, F⟩ := hF; exact c.T.keeps F.keep
  hh := c.hh
  dp := by have := c.dp; show c.A.depth + 1 + d < 1000; omega
  un := by have := c.un; show c.A.units + 3 + 20 * d < 9900; omega

theorem CF_fn {names : List Str} {args : List V} {name qual : Str} {params : Arguments} {body : List Stmt} {scope : Scope} {cl : List (Str × Addr)} {dV kV doc pm cdv ct : Value} {an : Option Addr} {f : Addr} {d : Nat} (hd : d + 1 = c.d)
    (ho : ∀ s, Sim prog c ρ σ s → (∃ fo, s.heap.get? f = some fo ∧ fo.data = .func (fnX name qual params body scope cl dV kV doc pm an cdv ct)) ∧ s.heap.CodeRec cdv qual)
    (hbind : ∀ s vs, Sim prog c ρ σ s → vs.length = args.length → BindsTo s (fnX name qual params body scope cl dV kV doc pm an cdv ct) ⟨vs, []⟩ (names.zip vs))
    (hlen : names.length = args.length) (hnd : names.Nodup) (hloc : ∀ x ∈ names, scope.names.lookup x = some .local) (hcell : ∀ x ∈ scope.names, x.2 ≠ .cell)
    (hco : scope.isCoroutine = false) (hgen : scope.isGenerator = false) (hk : scope.kind = .function)
    (h : ∀ c' : Cx w K, c'.d = d → EnvOk c' (envX qual scope c'.L f cdv cl) → EX prog c' (execs body (envX qual scope c'.L f cdv cl)) (names.zip args) σ (fun fl _ σ' => Q (retV fl) σ')) :
    CF prog c f args ρ σ Q := fun s vs S rs => by
  obtain ⟨⟨fo, hfo, hfd⟩, hcr⟩ := ho s S
  obtain ⟨m, F⟩ := S.fr
  have hl : vs.length = args.length := rs.length
  refine codeAny_call_def (fd := fnX name qual params body scope cl dV kV doc pm an cdv ct) (body := body) (binds := names.zip vs) (by have := c.dp; show c.A.depth < 1000; omega) hfo hfd (c.T.nolimit.keeps F.keep) hcr rfl (hbind s vs S hl) hcell
    (fun x hx => hloc x.1 (by obtain ⟨a, b⟩ := x; exact (List.of_mem_zip hx).1)) (fun h₁ hns hk₁ => ?_) hco hgen hk
  let c' : Cx w K := c.callee (hideS σ s.heap) S.hidden (envX qual scope s.heap.objs.size f cdv cl) s.heap.objs.size rfl hk d hd
  have S' : Sim prog c' (names.zip args) σ { s with heap := h₁, toks := s.toks + (names.zip vs).length } := by
    refine ⟨⟨_, ⟨hns, fun b o e => hk₁ b o (of_hideS e), Nat.le_of_eq (hideS_size _ _)⟩, ?_⟩, fun a o e => ⟨?_, hideS_none (by rw [e]; simp), (S.obj a o e).2.2.mono (tk_of_ext hk₁) fun ob => hk₁ a ob⟩⟩
    · have key : ∀ (ns : List Str) (us : List Value) (xs : List V), ns.Nodup → VRs s.heap us xs → LR h₁ (ns.zip xs) (fun x => (ns.zip us).reverse.lookup x) := by
        intro ns
        induction ns with
        | nil => intro us xs _ _ x V e; simp [lget] at e
        | cons n ns ih =>
          intro us xs hn hr x V e
          cases hr with
          | nil => simp [lget] at e
          | @cons v y us ys ra rb =>
            rw [List.nodup_cons] at hn
            simp only [List.zip_cons_cons, lget] at e
            simp only [List.zip_cons_cons, List.reverse_cons, List.lookup_append]
            by_cases q : n = x
            · subst q
              rw [if_pos rfl] at e; cases e
              have : (ns.zip us).reverse.lookup n = none := by
                rw [List.lookup_eq_none_iff]
                intro p hp
                have := (List.of_mem_zip (List.mem_reverse.mp hp)).1
                simp
                intro z; rw [z] at hn; exact hn.1 this
              exact ⟨v, by rw [this]; simp, ra.mono (tk_of_ext hk₁)⟩
            · rw [if_neg q] at e
              obtain ⟨u, hu, ru⟩ := ih us ys hn.2 rb x V e
              exact ⟨u, by dsimp only at hu; rw [hu]; rfl, ru⟩
      exact key names vs args hnd rs
    · intro z
      obtain ⟨ob, hob, _⟩ := (S.obj a o e).2.2.nt
      have : a = s.heap.objs.size := z
      rw [this] at hob
      exact absurd (Heap.lt_size hob) (Nat.lt_irrefl _)
  refine wpAny_mono (EX.run (c := c') (h c' rfl ⟨rfl, hk, rfl, rfl⟩) S' (P := fun fl s' => ∃ V σ', VR s'.heap (match fl with | .ret v => v | _ => .none) V ∧ Sim prog c ρ σ' s' ∧ Go c.L σ s σ' s' ∧ Q V σ') fun fl s' Fl' ρ' σ' r Sb g q => ?_) (fun fl s' hq => ?_) fun _ _ e => e.elim
  · obtain ⟨Sc, gc⟩ := S.back (c' := c') (fun b o e n => hideS_some e n) Sb (by obtain ⟨h, t, e⟩ := g.st; exact ⟨h, t, e⟩)
    refine ⟨retV Fl', σ', ?_, Sc, gc, q⟩
    cases fl with
    | next => rw [FR_next r]; exact .none
    | brk => rw [FR_brk r]; exact .none
    | cont => rw [FR_cont r]; exact .none
    | ret v => obtain ⟨V, e, r'⟩ := FR_ret r; rw [e]; exact r'
  · exact hq

theorem cellS_none {cv : Str → Option V} {σ : St} : ∀ {cs : List (Str × Addr)} {b : Addr}, b ∉ cs.map (·.2) → cellS cv σ cs b = σ b
  | [], _, _ => rfl
  | (n, a) :: r, b, h => by
    simp only [List.map_cons, List.mem_cons, not_or] at h
    exact (upd_ne h.1).trans (cellS_none h.2)
theorem cellS_some {cv : Str → Option V} {σ : St} : ∀ {cs : List (Str × Addr)} {b : Addr} {o : AO}, cellS cv σ cs b = some o → (∃ n, (n, b) ∈ cs ∧ o = .cell (cv n)) ∨ σ b = some o
  | [], _, _, h => .inr h
  | (n, a) :: r, b, o, h => by
    unfold cellS upd at h
    split at h
    · rename_i e; cases h; subst e; exact .inl ⟨n, .head _, rfl⟩
    · rcases cellS_some h with ⟨n', hm, e⟩ | e
      · exact .inl ⟨n', .tail _ hm, e⟩
      · exact .inr e

theorem CF_fnC {names : List Str} {args : List V} {name qual : Str} {params : Arguments} {body : List Stmt} {scope : Scope} {dV kV doc pm cdv ct : Value} {an : Option Addr} {f : Addr} {d : Nat} (hd : d + 1 = c.d)
    (ho : ∀ s, Sim prog c ρ σ s → (∃ fo, s.heap.get? f = some fo ∧ fo.data = .func (fnX name qual params body scope [] dV kV doc pm an cdv ct)) ∧ s.heap.CodeRec cdv qual)
    (hbind : ∀ s vs, Sim prog c ρ σ s → vs.length = args.length → BindsTo s (fnX name qual params body scope [] dV kV doc pm an cdv ct) ⟨vs, []⟩ (names.zip vs))
    (hkind : (names.all fun y => scope.names.lookup y == some .local || scope.names.lookup y == some .cell) = true) (hnd : ((cellsFrom 0 scope.names []).map (·.1)).Nodup)
    (hco : scope.isCoroutine = false) (hgen : scope.isGenerator = false) (hk : scope.kind = .function)
    (h : ∀ c' : Cx w K, c'.d = d → EnvOk c' (envX qual scope c'.L f cdv (cellsFrom (c'.L + 1) scope.names [])) → (∀ a, c'.L ≤ a → σ a = none) →
      EX prog c' (execs body (envX qual scope c'.L f cdv (cellsFrom (c'.L + 1) scope.names []))) (locV (fun x => scope.names.lookup x) (names.zip args) []) (cellS (celV (fun x => scope.names.lookup x) (names.zip args) fun _ => none) σ (cellsFrom (c'.L + 1) scope.names []))
        (fun fl _ σ' => Q (retV fl) σ')) :
    CF prog c f args ρ σ Q := fun s vs S rs => by
  obtain ⟨⟨fo, hfo, hfd⟩, hcr⟩ := ho s S
  obtain ⟨m, F⟩ := S.fr
  have hl : vs.length = args.length := rs.length
  have hkind' : ∀ x ∈ names.zip vs, scope.names.lookup x.1 = some .local ∨ (scope.names.lookup x.1 = some .cell ∧ ((cellsFrom (s.heap.objs.size + 1) scope.names []).lookup x.1).isSome = true) := fun x hx => by
    have hm : x.1 ∈ names := by obtain ⟨a, b⟩ := x; exact (List.of_mem_zip hx).1
    have := List.all_eq_true.mp hkind x.1 hm
    rcases Bool.or_eq_true_iff.mp this with q | q
    · exact .inl (by simpa using q)
    · have q' : scope.names.lookup x.1 = some .cell := by simpa using q
      exact .inr ⟨q', cellsFrom_some _ _ _ (.inl q')⟩
  refine codeAny_call_function (fd := fnX name qual params body scope [] dV kV doc pm an cdv ct) (by have := c.dp; show c.A.depth < 1000; omega) hfo hfd hco hgen rfl hcr (hbind s vs S hl _ _ _ _ ?_)
  refine wpAny_newFunctionEnv_cells hk hkind' fun env' hen s₁ x => ?_
  subst hen
  refine ⟨(c.T.nolimit.keeps F.keep).keeps x.toInCall.keep, codeAny_func ?_⟩
  obtain ⟨h₁, tk, rfl, _⟩ := x.done
  have hk₁ := x.toInCall.keep
  let c' : Cx w K := c.callee (hideS σ s.heap) S.hidden (envX qual scope s.heap.objs.size f cdv (cellsFrom (s.heap.objs.size + 1) scope.names [])) s.heap.objs.size rfl hk d hd
  have above : ∀ a, s.heap.objs.size ≤ a → s.heap.get? a = none := fun a ha => Heap.get?_none_of_le ha
  have free : ∀ a, s.heap.objs.size ≤ a → σ a = none := fun a ha => by
    cases q : σ a with
    | none => rfl
    | some o =>
      obtain ⟨ob, hob, _⟩ := (S.obj a o q).2.2.nt
      rw [above a ha] at hob; cases hob
  have rs₁ : VRs h₁ vs args := rs.mono (tk_of_ext hk₁)
  have S' : Sim prog c' (locV (fun x => scope.names.lookup x) (names.zip args) []) (cellS (celV (fun x => scope.names.lookup x) (names.zip args) fun _ => none) σ (cellsFrom (s.heap.objs.size + 1) scope.names [])) { s with heap := h₁, toks := tk } := by
    refine ⟨⟨_, ⟨x.toInCall.ns, fun b o e => hk₁ b o (of_hideS e), Nat.le_of_eq (hideS_size _ _)⟩, LR_bind _ names vs args [] _ rs₁ fun x V e => by simp [lget] at e⟩, fun a o e => ?_⟩
    rcases cellS_some e with ⟨n, hm, rfl⟩ | e
    · have hab := x.above n a hm
      have hab' : s.heap.objs.size < a := hab
      refine ⟨Nat.ne_of_gt hab', ?_, ?_⟩
      · show (hideS σ s.heap).get? a = none
        cases q : (hideS σ s.heap).get? a with
        | none => rfl
        | some o => have := of_hideS q; rw [above a (Nat.le_of_lt hab')] at this; cases this
      · have hlk : (cellsFrom (s.heap.objs.size + 1) scope.names []).lookup n = some a := lookup_of_mem_nodup (cellsFrom_names scope.names 0 (s.heap.objs.size + 1) [] [] rfl ▸ hnd) hm
        obtain ⟨ob, hob, hdd⟩ := x.cell n a hlk
        exact ⟨ob, _, hob, hdd, CR_bind (h := h₁) (fun x => scope.names.lookup x) names vs args (fun _ => none) (fun _ => none) rs₁ (fun _ => trivial) n⟩
    · refine ⟨?_, hideS_none (by rw [e]; simp), (S.obj a o e).2.2.mono (tk_of_ext hk₁) fun ob => hk₁ a ob⟩
      intro z
      have : σ a = none := free a (Nat.le_of_eq (Eq.symm z))
      rw [e] at this; cases this
  refine wpAny_mono (EX.run (c := c') (h c' rfl ⟨rfl, hk, rfl, rfl⟩ free) S' (P := fun fl s' => ∃ V σ', VR s'.heap (match fl with | .ret v => v | _ => .none) V ∧ Sim prog c ρ σ' s' ∧ Go c.L σ s σ' s' ∧ Q V σ') fun fl s' Fl' ρ' σ' r Sb g q => ?_) (fun fl s' hq => ?_) fun _ _ e => e.elim
  · obtain ⟨Sc, gc⟩ := S.back (c' := c') (fun b o e n => hideS_some e n) Sb (by obtain ⟨h, t, e⟩ := g.st; exact ⟨h, t, e⟩)
    refine ⟨retV Fl', σ', ?_, Sc, gc, q⟩
    cases fl with
    | next => rw [FR_next r]; exact .none
    | brk => rw [FR_brk r]; exact .none
    | cont => rw [FR_cont r]; exact .none
    | ret v => obtain ⟨V, e, r'⟩ := FR_ret r; rw [e]; exact r'
  · exact hq
end
end RH
set_option Elab.async false
set_option maxRecDepth 10000
set_option linter.all false
namespace RH
open PySem PySem.W PySem.Calls PyProof.Rows

section
variable {prog : Program} {w : World} {K : Frag} {c : Cx w K} {ρ : Loc} {σ : St} {env : Env} {Q : V → St → Prop}

/-- all that stands beside the frame, but one -/
def allN (h₀ h : Heap) (L dx : Addr) : List (Addr × Obj) := (List.range h.objs.size).filterMap fun a =>
  if a = L ∨ a = dx ∨ (h₀.get? a).isSome then none else (h.get? a).map (a, ·)
theorem mem_allN {h₀ h : Heap} {L dx : Addr} {p : Addr × Obj} : p ∈ allN h₀ h L dx ↔ h.get? p.1 = some p.2 ∧ p.1 ≠ L ∧ p.1 ≠ dx ∧ h₀.get? p.1 = none := by
  unfold allN
  rw [List.mem_filterMap]
  constructor
  · rintro ⟨a, ha, e⟩
    split at e
    · cases e
    · rename_i hn
      simp only [not_or] at hn
      cases q : h.get? a with
      | none => rw [q] at e; cases e
      | some o =>
        rw [q] at e
        have e' : (a, o) = p := by simpa using e
        subst e'
        exact ⟨q, hn.1, hn.2.1, by simpa using hn.2.2⟩
  · rintro ⟨h1, h2, h3, h4⟩
    refine ⟨p.1, List.mem_range.mpr (Heap.lt_size h1), ?_⟩
    rw [if_neg (by simp [h2, h3, h4]), h1]
    rfl

theorem Sim.change2 {s : Shared} {a : Addr} {o : AO} (S : Sim prog c ρ σ s) (e : σ a = some o) {m : Str → Option Value} (R : LR s.heap ρ m) {h' : Heap} (F' : Fr c.h₀ c.L h' m)
    (k : ∀ b ob, b ≠ a → b ≠ c.L → s.heap.get? b = some ob → h'.get? b = some ob) (ao : AO) (tk : Nat) (r : TK s.heap h' → OR prog w h' a ao) :
    Sim prog c ρ (upd σ a ao) { s with heap := h', toks := tk } ∧ Go c.L σ s (upd σ a ao) { s with heap := h', toks := tk } := by
  obtain ⟨hL, h0, r0⟩ := S.obj _ _ e
  obtain ⟨ob, ho, hn⟩ := r0.nt
  obtain ⟨m', F⟩ := S.fr
  obtain ⟨oL, es, ep, hoL, hdL, _⟩ := F.ns
  have t : TK s.heap h' := fun b items ⟨o, eb, hc, n, hd⟩ => by
    have h1 : b ≠ a := fun q => by subst q; rw [ho] at eb; cases eb; exact hn ⟨hc, items, n, hd⟩
    have h2 : b ≠ c.L := fun q => by subst q; rw [hoL] at eb; cases eb; rw [hdL] at hd; cases hd
    exact ⟨o, k b o h1 h2 eb, hc, n, hd⟩
  refine ⟨⟨⟨m, F', fun x V e => let ⟨v, hv, rv⟩ := R x V e; ⟨v, hv, rv.mono t⟩⟩, fun b o' q => ?_⟩, ⟨⟨_, _, rfl⟩, fun b ob hb hbL q => k b ob (fun z => by subst z; rw [e] at hb; cases hb) hbL q, t, fun b hb hb' => ?_⟩⟩
  · unfold upd at q
    split at q
    · rename_i z; cases q; subst z; exact ⟨hL, h0, r t⟩
    · rename_i z
      obtain ⟨h1, h2, h3⟩ := S.obj b o' q
      exact ⟨h1, h2, h3.mono t fun ob e => k b ob z h1 e⟩
  · unfold upd at hb'
    split at hb'
    · rename_i z; subst z; rw [e] at hb; cases hb
    · exact absurd hb hb'

/-! calls by name -/
/-- what may be called by its address -/
def Callable (K : Frag) (σ : St) (f : Addr) : Prop := keepIn K (.ref f) = true ∨ ∃ oc od fd sl, σ f = some (.raw ⟨oc, od, .func fd, sl⟩)
theorem Callable.looks {f : Addr} {s : Shared} (h : Callable K σ f) (S : Sim prog c ρ σ s) : ∃ k, (k = Keeper.frame ∨ k = Keeper.machine ∨ k = Keeper.boundFrame) ∧ Looks (model prog w) s.heap (keeperOf (.ref f)) k := by
  rcases h with h | ⟨oc, od, fd, sl, h⟩
  · exact keeps_K h s.heap S.inK
  · have ho := (S.obj _ _ h).2.2.1
    exact ⟨.frame, .inl rfl, (Looks.ld (part := none) ho).andThen .now⟩

theorem callWith_args {first : List V} {firstV : List Value} {f : Addr} {e : PySem.Expr} {rest : List PySem.Expr} {pos : Pos} {s : Shared} {P : Value → Shared → Prop} (S : Sim prog c ρ σ s) (rf : VRs s.heap firstV first)
    (he : starEach (e :: rest) env = (false, eval e env) :: starEach rest env) (hplain : (backTo pos (starEach rest env)).any (·.1) = false)
    (h : EVs prog c (spliced (backTo pos (starEach (e :: rest) env))) ρ σ fun xs σ₁ => Callable K σ₁ f ∧ CF prog c f (first ++ xs) ρ σ₁ Q)
    (k : ∀ v s' V σ', VR s'.heap v V → Sim prog c ρ σ' s' → Go c.L σ s σ' s' → Q V σ' → P v s') : wpAny (model prog w) c.A (callWith pos (.ref f) firstV (backTo pos (starEach (e :: rest) env)) []) P (fun _ _ => False) s := by
  have g := h.run S (P := fun vs s₁ => (∃ k, (k = Keeper.frame ∨ k = Keeper.machine ∨ k = Keeper.boundFrame) ∧ Looks (model prog w) s₁.heap (keeperOf (.ref f)) k) ∧ wpAny (model prog w) c.A (call (.ref f) (firstV ++ vs)) P (fun _ _ => False) s₁)
    fun vs s₁ xs σ₁ rs S₁ g₁ ⟨hc, hop⟩ => ⟨hc.looks S₁, OPn.run (f := fun vs => call (.ref f) vs) (CF.op hop) S₁ ((rf.mono g₁.tk).append rs) fun v s₂ V σ₂ r S₂ g₂ q => k v s₂ V σ₂ r S₂ (g₁.trans g₂) q⟩
  rw [he] at g ⊢
  exact callWith_of (P := fun h => ∃ k, (k = Keeper.frame ∨ k = Keeper.machine ∨ k = Keeper.boundFrame) ∧ Looks (model prog w) h (keeperOf (.ref f)) k) (by show ((false || (backTo pos (starEach rest env)).any (·.1)) || false) = false; rw [hplain]; rfl) (fun h x => x) (evalArgs_plain g)
theorem callWith_none {first : List V} {firstV : List Value} {f : Addr} {pos : Pos} {s : Shared} {P : Value → Shared → Prop} (S : Sim prog c ρ σ s) (rf : VRs s.heap firstV first)
    (h : Callable K σ f ∧ CF prog c f first ρ σ Q)
    (k : ∀ v s' V σ', VR s'.heap v V → Sim prog c ρ σ' s' → Go c.L σ s σ' s' → Q V σ' → P v s') : wpAny (model prog w) c.A (callWith pos (.ref f) firstV (backTo pos (starEach [] env)) []) P (fun _ _ => False) s := by
  have g := OPn.run (f := fun vs => call (.ref f) vs) (CF.op h.2) S rf k
  exact callWith_of (P := fun h => ∃ k, (k = Keeper.frame ∨ k = Keeper.machine ∨ k = Keeper.boundFrame) ∧ Looks (model prog w) h (keeperOf (.ref f)) k) rfl (fun h x => x) (evalArgs_nil3 ⟨h.1.looks S, by simpa using g⟩)

/-- a call of what an expression tells -/
theorem EV_call {fe e : PySem.Expr} {rest : List PySem.Expr} {pos : Pos} (hc : eval (.Call fe (e :: rest) [] pos) env = (do callWith pos (← eval fe env) [] (backTo pos (starEach (e :: rest) env)) (backToKw pos (keywordEach [] env))))
    (he : starEach (e :: rest) env = (false, eval e env) :: starEach rest env) (hplain : (backTo pos (starEach rest env)).any (·.1) = false)
    (h : EV prog c (eval fe env) ρ σ fun F σ₁ => ∃ f, F = .loc f ∧ EVs prog c (spliced (backTo pos (starEach (e :: rest) env))) ρ σ₁ fun xs σ₂ => Callable K σ₂ f ∧ CF prog c f xs ρ σ₂ Q) :
    EV prog c (eval (.Call fe (e :: rest) [] pos) env) ρ σ Q := fun s S =>
  Call_ (h.run S fun fv s₁ F σ₁ rf S₁ g₁ ⟨f, ef, h₁⟩ => by
    subst ef; cases rf
    exact callWith_args (first := []) S₁ .nil he hplain h₁ fun v s₂ V σ₂ r S₂ g₂ q => ⟨V, σ₂, r, S₂, g₁.trans g₂, q⟩) hc
theorem EV_call0 {fe : PySem.Expr} {pos : Pos} (hc : eval (.Call fe [] [] pos) env = (do callWith pos (← eval fe env) [] (backTo pos (starEach [] env)) (backToKw pos (keywordEach [] env))))
    (h : EV prog c (eval fe env) ρ σ fun F σ₁ => ∃ f, F = .loc f ∧ Callable K σ₁ f ∧ CF prog c f [] ρ σ₁ Q) :
    EV prog c (eval (.Call fe [] [] pos) env) ρ σ Q := fun s S =>
  Call_ (h.run S fun fv s₁ F σ₁ rf S₁ g₁ ⟨f, ef, h₁⟩ => by
    subst ef; cases rf
    exact callWith_none (first := []) S₁ .nil h₁ fun v s₂ V σ₂ r S₂ g₂ q => ⟨V, σ₂, r, S₂, g₁.trans g₂, q⟩) hc

/-! instances -/
structure ClsOk (K : Frag) (C : Addr) : Prop where
  get : plainGet K C "" = true
  dict : hasDictIn K C = true
  set : findIn K (.ref C) "__setattr__" = some (some (.builtin "object.__setattr__"))
  over : plainOver K C = true
structure AttrOk (K : Frag) (C : Addr) (name : Str) : Prop where
  find : findIn K (.ref C) name = some none
  taker : takerIn K C name = some none

def fget : List (Str × V) → Str → Option V
  | [], _ => none
  | (y, u) :: r, x => if y = x then some u else fget r x
def fset : List (Str × V) → Str → V → List (Str × V)
  | [], x, v => [(x, v)]
  | (y, u) :: r, x, v => if y = x then (y, v) :: r else (y, u) :: fset r x v

theorem NR.getL {h : Heap} {es : List DictEntry} {fs : List (Str × V)} (r : NR h es fs) (name : Str) : (∀ V, fget fs name = some V → ∃ v, getL name es = some (some v) ∧ VR h v V) ∧ (getL name es).isSome = true ∧ (fget fs name = none → getL name es = some none) := by
  have hany : es.any (·.refKey) = false := by
    clear name
    induction r with
    | nil => rfl
    | cons a _ ih => simpa [List.any_cons, DictEntry.refKey] using ih
  have key : (∀ V, fget fs name = some V → ∃ e, es.find? (·.key.isStr name) = some e ∧ VR h e.val V) ∧ (fget fs name = none → es.find? (·.key.isStr name) = none) := by
    clear hany
    induction r with
    | nil => exact ⟨fun V e => (by cases e), fun _ => rfl⟩
    | @cons hs x t v u es fs a _ ih =>
      simp only [fget, List.find?_cons, Value.isStr]
      by_cases q : x = name
      · subst q; simp; exact a
      · have : (x == name) = false := by simpa using q
        simp only [this, if_neg q]; exact ih
  refine ⟨fun V e => ?_, ?_, fun e => ?_⟩
  · obtain ⟨en, he, rv⟩ := key.1 V e
    exact ⟨en.val, by unfold PySem.W.getL; rw [he], rv⟩
  · unfold PySem.W.getL
    split
    · rfl
    · rw [hany]; rfl
  · unfold PySem.W.getL
    rw [key.2 e, hany]; rfl
theorem NR.putL {h : Heap} {es : List DictEntry} {fs : List (Str × V)} (r : NR h es fs) (name : Str) (hs : Int) (t : Tok) {v : Value} {u : V} (rv : VR h v u) : NR h (putL name hs (.str name t) v es) (fset fs name u) := by
  induction r with
  | nil => exact .cons rv .nil
  | @cons hs' x t' v' u' es fs a b ih =>
    simp only [PySem.W.putL, fset, Value.isStr]
    by_cases q : x = name
    · subst q; simp; exact .cons rv b
    · have : (x == name) = false := by simpa using q
      simp only [this, if_neg q, Bool.false_eq_true, if_false]; exact .cons a ih
theorem NR.length {h : Heap} {es : List DictEntry} {fs : List (Str × V)} (r : NR h es fs) : es.length = fs.length := by
  induction r with
  | nil => rfl
  | cons _ _ ih => simp [ih]

theorem EV_attr {o : PySem.Expr} {name : Str} {pos : Pos} (hev : eval (.Attribute o name pos) env = (do let ov ← eval o env; standAt pos.atName; let r ← holding [ov] (getAttr ov name true); letTemporaryGo o ov r; pure r))
    (h : EV prog c (eval o env) ρ σ fun X σ₁ => ∃ a C dx fs V, X = .loc a ∧ σ₁ a = some (.inst C dx) ∧ σ₁ dx = some (.ns fs) ∧ ClsOk K C ∧ AttrOk K C name ∧ fget fs name = some V ∧ Q V σ₁) :
    EV prog c (eval (.Attribute o name pos) env) ρ σ Q := fun s S =>
  Attribute_any_ (h.run S fun ov s₁ X σ₁ r S₁ g₁ ⟨a, C, dx, fs, V, e, h1, h2, hC, hA, hf, q⟩ => by
    subst e; cases r
    obtain ⟨m, F⟩ := S₁.fr
    obtain ⟨es, n, hes, hn⟩ := (S₁.obj _ _ h2).2.2
    obtain ⟨v, hv, rv⟩ := (hn.getL name).1 V hf
    have hd : handedIn v = true := by cases rv <;> rfl
    refine get_own F c.X (ox := instObj C dx) (es := es) (n := n) ⟨(S₁.obj _ _ h1).2.2, rfl, rfl, hes⟩ (by have := hC.get; unfold plainGet at this ⊢; exact this) hC.dict hA.find rfl hv hd ⟨V, σ₁, rv, S₁.toks _, g₁.trans (Go.toks _ _ _), q⟩) hev

theorem setAttr_inst {a C dx : Addr} {fs : List (Str × V)} {name : Str} {v : Value} {V : V} {s : Shared} {P : Unit → Shared → Prop} (S : Sim prog c ρ σ s) (rv : VR s.heap v V) (h1 : σ a = some (.inst C dx)) (h2 : σ dx = some (.ns fs)) (hC : ClsOk K C) (hA : AttrOk K C name) (hl : fs.length ≤ 900)
    (k : ∀ s', Sim prog c ρ (upd σ dx (.ns (fset fs name V))) s' → Go c.L σ s (upd σ dx (.ns (fset fs name V))) s' → P () s') : wpAny (model prog w) c.A (setAttr (.ref a) name v) P (fun _ _ => False) s := by
  obtain ⟨m, F, R⟩ := S.loc
  obtain ⟨hdL, hd0, es, n, hes, hn⟩ := S.obj _ _ h2
  have N : News c.h₀ c.L s.heap ((dx, dictOf es n) :: allN c.h₀ s.heap c.L dx) := fun p hp => by
    rcases List.mem_cons.mp hp with rfl | hp
    · exact ⟨hes, hdL, hd0⟩
    · obtain ⟨x1, x2, x3, x4⟩ := mem_allN.mp hp; exact ⟨x1, x2, x4⟩
  have lz : ∀ (l : List DictEntry) hs ky u, (PySem.W.putL name hs ky u l).length ≤ l.length + 1 := by
    intro l hs ky u
    induction l with
    | nil => simp [PySem.W.putL]
    | cons e r ih =>
      simp only [PySem.W.putL]
      split
      · simp
      · simp; exact ih
  refine set_dict F c.X N (ox := instObj C dx) (dx := dx) (es := es) (n := n) ⟨(S.obj _ _ h1).2.2, rfl, rfl, hes⟩ rfl hC.set hC.over hA.taker hC.dict (hn.getL name).2.1 rfl (.head fun p hp => (mem_allN.mp hp).2.2.1)
    (by have := lz es (PyData.keyHash w.params name) (.str name (s.toks + 1)) v; have := hn.length; omega) fun h' F' N' => ?_
  obtain ⟨S', G'⟩ := S.change2 h2 R F' (fun b ob hb hbL e => by
      cases q : c.h₀.get? b with
      | some o' => have := F.keep b o' q; rw [e] at this; cases this; exact F'.keep b ob q
      | none => exact (N' (b, ob) (.tail _ (mem_allN.mpr ⟨e, hbL, hb, q⟩))).1) (.ns (fset fs name V)) (s.toks + 2) fun t => ⟨_, _, (N' _ (.head _)).1, (hn.mono t).putL name _ _ (rv.mono t)⟩
  exact k _ S' G'
theorem EX_Attr {o value : PySem.Expr} {name : Str} {pos' pos : Pos} {Q : Fl → Loc → St → Prop} (hs : swapsWith value (some (.Attribute o name pos')) pos.line env = pure false)
    (h : EV prog c (eval value env) ρ σ fun V σ₁ => EV prog c (eval o env) ρ σ₁ fun X σ₂ => ∃ a C dx fs, X = .loc a ∧ σ₂ a = some (.inst C dx) ∧ σ₂ dx = some (.ns fs) ∧ ClsOk K C ∧ AttrOk K C name ∧ fs.length ≤ 900 ∧ Q .next ρ (upd σ₂ dx (.ns (fset fs name V)))) :
    EX prog c (exec (.Assign [.Attribute o name pos'] value pos) env) ρ σ Q := fun s S =>
  plainObj_wpAny_Assign_Attribute (h.run S fun v s₁ V σ₁ rv S₁ g₁ h₁ => h₁.run S₁ fun ov s₂ X σ₂ r S₂ g₂ ⟨a, C, dx, fs, e, h1, h2, hC, hA, hl, q⟩ => by
    subst e; cases r
    exact setAttr_inst S₂ (rv.mono g₂.tk) h1 h2 hC hA hl fun s₃ S₃ g₃ => ⟨.next, ρ, _, trivial, S₃, (g₁.trans g₂).trans g₃, q⟩) hs

/-- a method of an own class -/
structure MethOk (K : Frag) (C : Addr) (name : Str) (f : Addr) : Prop where
  find : findIn K (.ref C) name = some (some (.ref f))
  fn : isFn K (.ref f) = true
theorem EV_meth {o : PySem.Expr} {name : Str} {apos pos : Pos} {e : PySem.Expr} {rest : List PySem.Expr} {pl : Sem Bool}
    (hev : eval (.Call (.Attribute o name apos) (e :: rest) [] pos) env = (do let ov ← eval o env; standAt apos.atName; let (f, first) ← holding [ov] (getMethod ov name pl); callWith pos f first (backTo pos (starEach (e :: rest) env)) []))
    (he : starEach (e :: rest) env = (false, eval e env) :: starEach rest env) (hplain : (backTo pos (starEach rest env)).any (·.1) = false)
    (h : EV prog c (eval o env) ρ σ fun X σ₁ => ∃ a C dx fs f, X = .loc a ∧ σ₁ a = some (.inst C dx) ∧ σ₁ dx = some (.ns fs) ∧ ClsOk K C ∧ MethOk K C name f ∧ fget fs name = none ∧
      EVs prog c (spliced (backTo pos (starEach (e :: rest) env))) ρ σ₁ fun xs σ₂ => Callable K σ₂ f ∧ CF prog c f (.loc a :: xs) ρ σ₂ Q) :
    EV prog c (eval (.Call (.Attribute o name apos) (e :: rest) [] pos) env) ρ σ Q := fun s S => by
  rw [hev]
  refine wpAny_bind (h.run S fun ov s₁ X σ₁ r S₁ g₁ ⟨a, C, dx, fs, f, ex, h1, h2, hC, hM, hf, h₁⟩ => ?_)
  subst ex; cases r
  obtain ⟨m, F⟩ := S₁.fr
  obtain ⟨es, n, hes, hn⟩ := (S₁.obj _ _ h2).2.2
  refine wpAny_bind (wpAny_standAt (wpAny_bind (wpAny_holding (method_inst F c.X (ox := instObj C dx) (es := es) (n := n) ⟨(S₁.obj _ _ h1).2.2, rfl, rfl, hes⟩ (by have := hC.get; unfold plainGet at this ⊢; exact this) hM.find hM.fn ((hn.getL name).2.2 hf) ?_))))
  exact callWith_args (first := [.loc a]) S₁ (.cons (.loc a) .nil) he hplain h₁ fun v s₂ V σ₂ r S₂ g₂ q => ⟨V, σ₂, r, S₂, g₁.trans g₂, q⟩
theorem EV_meth0 {o : PySem.Expr} {name : Str} {apos pos : Pos} {pl : Sem Bool}
    (hev : eval (.Call (.Attribute o name apos) [] [] pos) env = (do let ov ← eval o env; standAt apos.atName; let (f, first) ← holding [ov] (getMethod ov name pl); callWith pos f first (backTo pos (starEach [] env)) []))
    (h : EV prog c (eval o env) ρ σ fun X σ₁ => ∃ a C dx fs f, X = .loc a ∧ σ₁ a = some (.inst C dx) ∧ σ₁ dx = some (.ns fs) ∧ ClsOk K C ∧ MethOk K C name f ∧ fget fs name = none ∧
      Callable K σ₁ f ∧ CF prog c f [.loc a] ρ σ₁ Q) :
    EV prog c (eval (.Call (.Attribute o name apos) [] [] pos) env) ρ σ Q := fun s S => by
  rw [hev]
  refine wpAny_bind (h.run S fun ov s₁ X σ₁ r S₁ g₁ ⟨a, C, dx, fs, f, ex, h1, h2, hC, hM, hf, h₁⟩ => ?_)
  subst ex; cases r
  obtain ⟨m, F⟩ := S₁.fr
  obtain ⟨es, n, hes, hn⟩ := (S₁.obj _ _ h2).2.2
  refine wpAny_bind (wpAny_standAt (wpAny_bind (wpAny_holding (method_inst F c.X (ox := instObj C dx) (es := es) (n := n) ⟨(S₁.obj _ _ h1).2.2, rfl, rfl, hes⟩ (by have := hC.get; unfold plainGet at this ⊢; exact this) hM.find hM.fn ((hn.getL name).2.2 hf) ?_))))
  exact callWith_none (first := [.loc a]) S₁ (.cons (.loc a) .nil) h₁ fun v s₂ V σ₂ r S₂ g₂ q => ⟨V, σ₂, r, S₂, g₁.trans g₂, q⟩
end
end RH
set_option Elab.async false
set_option maxRecDepth 10000
set_option linter.all false
namespace RH
open PySem PySem.W PySem.Calls PyProof.Rows

section
variable {prog : Program} {w : World} {K : Frag} {c : Cx w K} {ρ : Loc} {σ : St} {env : Env} {Q : V → St → Prop}

/-! classes called -/
def Cx.makes (c : Cx w K) (C : Addr) (vs : List Value) (d : Nat) (hd : d + 1 = c.d) : Cx w K where
  A := c.A.under (.builtin "type.__call__" ⟨.ref C :: vs, []⟩)
  L := c.L
  h₀ := c.h₀
  d := d
  p := c.p
  loose := c.loose
  mean := c.mean
  mg := c.mg
  mb := c.mb
  base := c.base
  frs := c.frs
  hA := c.hA
  BB := fun g m F => let B := c.BB g m F; ⟨B.stack, B.stays, B.frames⟩
  X := c.X
  T := c.T
  hh := c.hh
  dp := by have := c.dp; show c.A.depth + 1 + d < 1000; omega
  un := by
    have := c.un
    have : (Code.builtin "type.__call__" ⟨.ref C :: vs, []⟩).cUnits ≤ 4 := by
      have e : (Code.builtin "type.__call__" ⟨.ref C :: vs, []⟩).cUnits = 1 := by rfl
      rw [e]; decide
    show c.A.units + (Code.builtin "type.__call__" ⟨.ref C :: vs, []⟩).cUnits + 20 * d < 9900
    omega
theorem Cx.makes_sim {C : Addr} {vs : List Value} {d : Nat} {hd : d + 1 = c.d} {s : Shared} : Sim prog (c.makes C vs d hd) ρ σ s ↔ Sim prog c ρ σ s := ⟨fun S => ⟨S.loc, S.obj⟩, fun S => ⟨S.loc, S.obj⟩⟩

theorem CF_cls {C fI : Addr} {args : List V} {d : Nat} (hd : d + 1 = c.d) (hm : makesIn K C = true) (hi : findIn K (.ref C) "__init__" = some (some (.ref fI))) (hf : isFn K (.ref fI) = true)
    (h : ∀ (c' : Cx w K) (x dx : Addr), c'.d = d → σ x = none → σ dx = none → x ≠ dx →
      CF prog c' fI (.loc x :: args) ρ (upd (upd σ dx (.ns [])) x (.inst C dx)) (fun V σ' => V = .none ∧ Q (.loc x) σ')) :
    CF prog c C args ρ σ Q := fun s vs S rs => by
  obtain ⟨hh, g, dr, t, os⟩ := s
  have X := S.inK
  have S1 := S.pushO emptyDict (.ns []) t ⟨[], 0, Heap.get?_push_size _ rfl, .nil⟩
  have G1 := Go.pushO S emptyDict (.ns []) t
  have hsz : (hh.push emptyDict).objs.size = hh.objs.size + 1 := Heap.size_push _ _
  have S2 := S1.pushO (instObj C hh.objs.size) (.inst C hh.objs.size) t (Heap.get?_push_size _ rfl)
  have G2 := Go.pushO S1 (instObj C hh.objs.size) (.inst C hh.objs.size) t
  have f0 := S.freshAt
  have f1 := S1.freshAt
  dsimp only at S1 G1 S2 G2 f0 f1
  rw [hsz] at S2 G2 f1
  have f1' : σ (hh.objs.size + 1) = none := by rw [upd_ne (Nat.succ_ne_self _)] at f1; exact f1
  refine make_core (makes_of X hm) (looks_findIn X hi) (fun self => bind_fn X self (beq_iff_eq.mp hf)) (.inl rfl) ?_
  have S2' : Sim prog (c.makes C vs d hd) ρ (upd (upd σ hh.objs.size (.ns [])) (hh.objs.size + 1) (.inst C hh.objs.size)) ⟨(hh.push emptyDict).push (instObj C hh.objs.size), g, dr, t, os⟩ := Cx.makes_sim.mpr S2
  have key := h (c.makes C vs d hd) (hh.objs.size + 1) hh.objs.size rfl f1' f0 (Nat.succ_ne_self _) _ (.ref (hh.objs.size + 1) :: vs) S2' (.cons (.loc _) (rs.mono ((TK.push _ _).trans (TK.push _ _))))
  refine codeAny_mono key fun r s' hr => ?_
  cases r with
  | error e => exact hr.elim
  | ok fl => cases fl with
    | ret v =>
      obtain ⟨V, σ', rv, S', G', rfl, q⟩ := hr
      cases rv
      exact ⟨rfl, _, σ', .loc _, Cx.makes_sim.mp S', (G1.trans G2).trans G', q⟩
    | next => exact hr
    | brk => exact hr
    | cont => exact hr

/-! comprehensions -/
def CB (prog : Program) (c : Cx w K) (x : Str) (elt : PySem.Expr) (env : Env) (ok : St → Prop) (D : Addr) : List V → Loc → St → (St → Prop) → Prop
  | [], ρ, σ, Q => Q σ
  | v :: vs, ρ, σ, Q => EV prog c (eval elt env) (lset ρ x v) σ fun y σ' => ∃ ys, σ' D = some (.list ys) ∧ ys.length ≤ 1000000 ∧ ok (upd σ' D (.list (ys ++ [y]))) ∧ CB prog c x elt env ok D vs (lset ρ x v) (upd σ' D (.list (ys ++ [y]))) Q

theorem append_op {a : Addr} {ys : List V} {y : V} {v : Value} {s : Shared} {P : Value → Shared → Prop} {E : Value → Shared → Prop} (S : Sim prog c ρ σ s) (ha : σ a = some (.list ys)) (hz : ys.length ≤ 1000000) (r : VR s.heap v y)
    (k : ∀ s', Sim prog c ρ (upd σ a (.list (ys ++ [y]))) s' → Go c.L σ s (upd σ a (.list (ys ++ [y]))) s' → P .none s') : wpAny (model prog w) c.A (call (.builtin "list.append") [.ref a, v]) P E s := by
  obtain ⟨_, _, items, hl, hv⟩ := S.obj _ _ ha
  have hs : items.size = ys.length := by rw [← hv.length, Array.length_toList]
  refine wpAny_list_append_plain hl (fun h' hl' hs' => ?_) (by rw [hs]; exact Nat.le_trans hz (by decide))
  obtain ⟨n, hn⟩ := hl
  have tk : TK s.heap h' := tk_of_same hs' hn fun ⟨e, _⟩ => by simp at e
  exact k _ (S.change ha hs' _ s.toks ⟨_, hl', by rw [Array.toList_push]; exact (hv.mono tk).snoc (r.mono tk)⟩) (Go.change S ha hs' _ _)

theorem comp_loop {I D : Addr} {xs : List V} {fact : Nat → St → Heap → Prop} {ok : St → Prop} {x : Str} {px : Pos} {elt iter : PySem.Expr} {scope : Scope} {pos : Pos} {σ₀ : St} {s₀ : Shared} {Q : St → Prop} (W : ITR prog w c.A I xs fact ok) (he : EnvOk c env) (hx : env.kindOf x = some .local)
    (hI0 : s₀.heap.get? I = none) (hIL : I ≠ c.L) (hIh : c.h₀.get? I = none) :
    ∀ (vs : List V) (i : Nat) (ρ : Loc) (σ : St) (s : Shared), xs.drop i = vs → i ≤ xs.length → Sim prog c ρ σ s → Go c.L σ₀ s₀ σ s → σ I = none → fact i σ s.heap → CB prog c x elt env ok D vs ρ σ Q →
      codeAny (model prog w) c.A (.compLoop (.ListComp elt [⟨.Name x px, iter, [], 0⟩] scope pos) 0 (.ref I) (.ref D) env) (fun r s' => match r with
        | .ok _ => ∃ ρ' σ', Sim prog c ρ' σ' s' ∧ Go c.L σ₀ s₀ σ' s' ∧ Q σ'
        | .error _ => False) s := by
  intro vs
  induction vs with
  | nil =>
    intro i ρ σ s hd hle S g hσ hf h
    refine codeAny_of_tree ?_
    show wpAny _ c.A ((compTurn (.ListComp elt [⟨.Name x px, iter, [], 0⟩] scope pos) 0 (.ref I) (.ref D) env).onRaise (fun x => do noteFrame x env; theTreesLotGoes x)) _ _ s
    refine wpAny_onRaise (wpAny_mono (Q := _) (E := fun _ _ => False) ?_ (fun _ _ x => x) fun _ _ x => x.elim)
    rw [compTurn_list1]
    have hi : i ≥ xs.length := by simpa using hd
    have hq : i = xs.length := Nat.le_antisymm hle hi
    have hf' : fact xs.length σ s.heap := hq ▸ hf
    obtain ⟨ob, ho, hn⟩ := W.there _ _ _ hf
    refine wpAny_bind (wpAny_standAt (wpAny_bind (W.done σ s _ _ hf' (fun a o e => (S.obj a o e).2.2) fun h' tk hx' => ?_)))
    exact wpAny_pure ⟨ρ, σ, S.but hσ hIL hIh ho hn hx' tk, g.but hI0 ho hn hx' tk, h⟩
  | cons v vs ih =>
    intro i ρ σ s hd hle S g hσ hf h
    refine codeAny_of_tree ?_
    show wpAny _ c.A ((compTurn (.ListComp elt [⟨.Name x px, iter, [], 0⟩] scope pos) 0 (.ref I) (.ref D) env).onRaise (fun x => do noteFrame x env; theTreesLotGoes x)) _ _ s
    refine wpAny_onRaise (wpAny_mono (Q := _) (E := fun _ _ => False) ?_ (fun _ _ x => x) fun _ _ x => x.elim)
    rw [compTurn_list1]
    have hv : xs[i]? = some v := by
      have := congrArg (·[0]?) hd
      simpa using this
    have hd' : xs.drop (i + 1) = vs := by
      have := congrArg List.tail hd
      simpa using this
    obtain ⟨ob, ho, hn⟩ := W.there _ _ _ hf
    refine wpAny_bind (wpAny_standAt (wpAny_bind (W.item i v σ s _ _ hv hf (fun a o e => (S.obj a o e).2.2) fun u h' tk ru hf₁ hx' => ?_)))
    have S₁ := S.but hσ hIL hIh ho hn hx' tk
    have g₁ := g.but hI0 ho hn hx' tk
    refine wpAny_bind (wpAny_of_eq (a := ()) (by rfl) ?_)
    refine wpAny_bind (wpAny_assign_Name (store_local he hx S₁ ru fun s₂ S₂ g₂ => ?_))
    obtain ⟨ob₁, ho₁, hn₁⟩ := W.there _ _ _ hf₁
    refine wpAny_bind (wpAny_bind (EV.run h S₂ fun y s₃ Y σ₃ r S₃ g₃ ⟨ys, hD, hz, hok, hcb⟩ => wpAny_bind (append_op S₃ hD hz r fun s₄ S₄ g₄ => ?_)))
    have g' := ((g₁.trans g₂).trans g₃).trans g₄
    have ho₂ := g₂.keep I ob₁ hσ hIL ho₁
    have ho₃ := g₃.keep I ob₁ hσ hIL ho₂
    have hσ₃ : σ₃ I = none := by
      cases q : σ₃ I with
      | none => rfl
      | some ao => exact absurd (g₃.new I hσ (by rw [q]; simp)).2 (by rw [ho₂]; simp)
    have ho₄ := g₄.keep I ob₁ hσ₃ hIL ho₃
    have hσ₄ : upd σ₃ D (.list (ys ++ [Y])) I = none := by
      rw [upd_ne (fun e => by rw [e, hD] at hσ₃; cases hσ₃)]; exact hσ₃
    exact wpAny_pure (wpAny_pure ⟨rfl, ih (i + 1) _ _ s₄ hd' (Nat.succ_le_of_lt (List.getElem?_eq_some_iff.mp hv).1) S₄ g' hσ₄
      (W.frame _ _ _ _ _ hf₁ hok (fun o e => by rw [ho₁] at e; cases e; exact ho₄) ((g₂.tk.trans g₃.tk).trans g₄.tk)) hcb⟩)

theorem Below.moreH {A : Around} {base g h : Heap} {l : List Env} (B : Below A base l g) (k : ∀ b o, g.get? b = some o → h.get? b = some o) : Below A base l h :=
  ⟨B.stack, fun b o e => k b o (B.stays b o e), B.frames.of_keeps fun b o e _ => ⟨o, k b o e, rfl⟩⟩

/-- the comprehension's context -/
def Cx.comp (c : Cx w K) (h₀ : Heap) (hF : ∃ m, Fr c.h₀ c.L h₀ m) (C : Addr) : Cx w K where
  A := c.A
  L := C
  h₀ := h₀
  d := c.d
  p := c.p
  loose := c.loose
  mean := c.mean
  mg := c.mg
  mb := c.mb
  base := c.base
  frs := c.frs
  hA := c.hA
  BB := fun g m F => by obtain ⟨m', F'⟩ := hF; exact RH.Below.moreH (c.BB h₀ m' F') F.keep
  X := by obtain ⟨m, F⟩ := hF; exact c.X.keeps F.keep
  T := by obtain ⟨m, F⟩ := hF; exact c.T.keeps F.keep
  hh := c.hh
  dp := c.dp
  un := c.un

theorem comp_core {x : Str} {px : Pos} {elt iter : PySem.Expr} {scope : Scope} {cl : List (Str × Addr)} {pos : Pos} {xv : Value} {X : V} {xs : List V} {ok : St → Prop} {s₁ : Shared} {Q : V → St → Prop}
    (he : EnvOk c env) (hcell : ∀ y ∈ scope.names, y.2 ≠ .cell) (hkind : scope.kind = .function) (hx : scope.names.lookup x = some .local)
    (S₁ : Sim prog c ρ σ s₁) (r : VR s₁.heap xv X) (hi : IsIt σ X xs ok)
    (h : ∀ (c' : Cx w K) (D : Addr), c'.d = c.d → EnvOk c' (compEnvC scope cl c'.L env) → σ D = none → (∀ o, o = AO.list [] → ok (upd σ D o)) ∧ CB prog c' x elt (compEnvC scope cl c'.L env) ok D xs [] (upd σ D (.list [])) (fun σ' => Q (.loc D) σ'))
    (P : Value → Addr → Result → Shared → Prop)
    (k : ∀ D C s' m σ', s'.heap.Ns C m → Sim prog c ρ σ' s' → Go c.L σ s₁ σ' s' → C ≠ c.L → c.h₀.get? C = none → σ' C = none → s₁.heap.get? C = none → Q (.loc D) σ' → ∀ fl, P (.ref D) C (.ok fl) s') :
    wpAny (model prog w) c.A (pyIter xv) (fun it s₂ => wpAny (model prog w) c.A (newList []) (fun acc s₃ => wpAny (model prog w) c.A (newFunctionEnv scope env.globals cl [] env.qual none .none (some env)) (fun cenv s₄ =>
      codeAny (model prog w) c.A (.compStart (.ListComp elt [⟨.Name x px, iter, [], 0⟩] scope pos) 0 it acc { cenv with scope := relabel scope env }) (P acc cenv.locals) s₄) (fun _ _ => False) s₃) (fun _ _ => False) s₂) (fun _ _ => False) s₁ := by
  refine pyIter_is hi S₁ r fun o fact hfr W hf => ?_
  have hIL := S₁.sizeNe
  have hI0 := S₁.size₀
  have hσI := S₁.freshAt
  have S₂ := S₁.pushT o s₁.toks
  refine wpAny_newObj_type (wpAny_newFunctionEnv hcell (by intro y hy; simp at hy) (fun h₁ hns₁ hsb₁ => ?_) hkind)
  dsimp only at hns₁ hsb₁ ⊢
  generalize hI : s₁.heap.objs.size = I at *
  generalize hH1 : s₁.heap.push o = H1 at *
  have hD1 : H1.objs.size = I + 1 := by rw [← hH1, Heap.size_push, hI]
  generalize hH2 : H1.push { cls := .type "list", dict := none, data := .seq ([] : List Value).toArray } = H2 at *
  have hC2 : H2.objs.size = I + 2 := by rw [← hH2, Heap.size_push, hD1]
  have hDn : σ H1.objs.size = none := by
    have := S₂.freshAt; exact this
  have S₃ : Sim prog c ρ (upd σ H1.objs.size (.list [])) { s₁ with heap := H2, toks := s₁.toks } := by
    have := S₂.pushO { cls := .type "list", dict := none, data := .seq ([] : List Value).toArray } (.list []) s₁.toks ⟨_, ⟨0, Heap.get?_push_size _ rfl⟩, .nil⟩
    dsimp only at this
    rw [hH2] at this; exact this
  have hIH2 : H2.get? I = some o := by rw [← hH2, ← hH1, ← hI]; exact Heap.get?_push_of_some _ (Heap.get?_push_size _ hfr)
  have hI1 : I ≠ H1.objs.size := by show @Ne Nat _ _; omega
  have hσ3I : upd σ H1.objs.size (.list []) I = none := by rw [upd_ne hI1]; exact hσI
  -- the ground of the comprehension
  let g : Heap := hideAll (hideS (upd σ H1.objs.size (.list [])) H2) [I]
  have gsome : ∀ b ob, H2.get? b = some ob → upd σ H1.objs.size (.list []) b = none → b ≠ I → g.get? b = some ob := fun b ob e n ne => hideAll_get _ (hideS_some e n) (by simpa using ne)
  have gof : ∀ b ob, g.get? b = some ob → H2.get? b = some ob := fun b ob e => of_hideS (of_hideAll _ e)
  have gI : g.get? I = none := hideAll_none _ (List.mem_singleton.mpr rfl)
  have gnone : ∀ b, upd σ H1.objs.size (.list []) b ≠ none → g.get? b = none := fun b n => by
    cases q : g.get? b with
    | none => rfl
    | some ob => have := of_hideAll _ q; rw [hideS_none n] at this; cases this
  have hF : ∃ m, Fr c.h₀ c.L g m := by
    obtain ⟨m, F⟩ := S₃.fr
    obtain ⟨oL, es, ep, hL, rr⟩ := F.ns
    have nL : upd σ H1.objs.size (.list []) c.L = none := by
      cases q : upd σ H1.objs.size (.list []) c.L with
      | none => rfl
      | some ao => exact absurd rfl (S₃.obj _ _ q).1
    refine ⟨m, ⟨oL, es, ep, gsome _ _ hL nL (Ne.symm hIL), rr⟩, fun b ob e => gsome _ _ (F.keep b ob e) ?_ ?_, F.above⟩
    · cases q : upd σ H1.objs.size (.list []) b with
      | none => rfl
      | some ao => have := (S₃.obj _ _ q).2.1; rw [e] at this; cases this
    · intro z; subst z; rw [hI0] at e; cases e
  let c' : Cx w K := c.comp g hF H2.objs.size
  have hk₁ : ∀ b ob, H2.get? b = some ob → h₁.get? b = some ob := fun b ob e => hsb₁.extBut b ob (Nat.ne_of_lt (Heap.lt_size e)) (Heap.get?_push_of_some _ e)
  have S₄ : Sim prog c' [] (upd σ H1.objs.size (.list [])) { s₁ with heap := h₁, toks := s₁.toks + ([] : List (Str × Value)).length } := by
    refine ⟨⟨_, ⟨hns₁, fun b ob e => hk₁ b ob (gof b ob e), ?_⟩, fun x V e => by simp [lget] at e⟩, fun a ao e => ⟨?_, gnone a (by rw [e]; simp), (S₃.obj a ao e).2.2.mono (tk_of_ext hk₁) fun ob => hk₁ a ob⟩⟩
    · show g.objs.size ≤ H2.objs.size
      exact Nat.le_of_eq ((hideAll_size _ _).trans (hideS_size _ _))
    · intro z
      obtain ⟨ob, hob, _⟩ := (S₃.obj a ao e).2.2.nt
      have : a = H2.objs.size := z
      rw [this] at hob
      exact absurd (Heap.lt_size hob) (Nat.lt_irrefl _)
  obtain ⟨hok, hcb⟩ := h c' H1.objs.size rfl ⟨rfl, hkind, he.gl, he.bu⟩ hDn
  have hok0 := hok _ rfl
  have hf₁ : fact 0 (upd σ H1.objs.size (.list [])) h₁ := W.frame _ _ _ _ _ hf hok0 (fun ob e => hk₁ _ _ (by rw [← hH2]; exact Heap.get?_push_of_some _ e)) (fun b items z => tk_of_ext hk₁ b items (by rw [← hH2]; exact z.push _))
  have loop : codeAny (model prog w) c.A (.compLoop (.ListComp elt [⟨.Name x px, iter, [], 0⟩] scope pos) 0 (.ref I) (.ref H1.objs.size) (compEnvC scope cl H2.objs.size env)) (P (.ref H1.objs.size) H2.objs.size) { s₁ with heap := h₁, toks := s₁.toks + ([] : List (Str × Value)).length } := by
    refine codeAny_mono (comp_loop (c := c') (env := compEnvC scope cl H2.objs.size env) (σ₀ := σ) (s₀ := s₁) (Q := fun σ' => Q (.loc H1.objs.size) σ') W ⟨rfl, hkind, he.gl, he.bu⟩ (lookup_relabel_local hx) (Heap.get?_none_of_le (by omega)) (by show @Ne Nat I H2.objs.size; omega) gI xs 0 [] _ _ rfl (Nat.zero_le _) S₄ ?_ hσ3I hf₁ hcb) fun rr s' hr => ?_
    · -- from the start to here
      refine ⟨⟨_, _, rfl⟩, fun b ob hb hL e => hk₁ b ob (by rw [← hH2, ← hH1]; exact Heap.get?_push_of_some _ (Heap.get?_push_of_some _ e)), fun b items z => tk_of_ext hk₁ b items (by rw [← hH2, ← hH1]; exact (z.push _).push _), fun b hb hb' => ?_⟩
      have : b = H1.objs.size := by
        cases q : decide (b = H1.objs.size) with
        | true => exact of_decide_eq_true q
        | false => exact absurd (by rw [upd_ne (of_decide_eq_false q)]; exact hb) hb'
      subst this
      exact ⟨by show @Ne Nat H1.objs.size H2.objs.size; omega, Heap.get?_none_of_le (by omega)⟩
    · cases rr with
      | error e => exact hr.elim
      | ok fl =>
        obtain ⟨ρ', σ', S', G', q⟩ := hr
        have st : ∃ h tk, s' = { s₁ with heap := h, toks := tk } := G'.st
        obtain ⟨Sb, Gb⟩ := S₁.back (c' := c') (fun b ob e n => gsome b ob (by rw [← hH2, ← hH1]; exact Heap.get?_push_of_some _ (Heap.get?_push_of_some _ e)) (by rw [upd_ne (fun z => by have h1 : @LT.lt Nat _ b s₁.heap.objs.size := Heap.lt_size e; have z' : @Eq Nat b H1.objs.size := z; omega)]; exact n) (fun z => by have h1 : @LT.lt Nat _ b s₁.heap.objs.size := Heap.lt_size e; have z' : @Eq Nat b I := z; omega)) S' st
        obtain ⟨mC, FC⟩ := S'.fr
        have hCn : s₁.heap.get? H2.objs.size = none := Heap.get?_none_of_le (by omega)
        obtain ⟨m0, F0⟩ := S₁.fr
        have hCL : H2.objs.size ≠ c.L := fun z => by
          obtain ⟨oL, es, ep, hL, _⟩ := F0.ns
          rw [← z, hCn] at hL; cases hL
        have hC0 : c.h₀.get? H2.objs.size = none := by
          cases z : c.h₀.get? H2.objs.size with
          | none => rfl
          | some ob => have := F0.keep _ _ z; rw [hCn] at this; cases this
        have hσC : σ' H2.objs.size = none := by
          cases z : σ' H2.objs.size with
          | none => rfl
          | some ao => exact absurd rfl (S'.obj _ _ z).1
        have hP := k H1.objs.size H2.objs.size s' mC σ' FC.ns Sb Gb hCL hC0 hσC hCn q fl
        exact hP
  exact codeAny_compStart_list loop (W.self 0 _ _ _ _ hf₁ loop)
end
end RH
set_option Elab.async false
set_option maxRecDepth 10000
set_option linter.all false
namespace RH
open PySem PySem.W PySem.Calls PyProof.Rows

section
variable {prog : Program} {w : World} {K : Frag} {c : Cx w K} {ρ : Loc} {σ : St} {env : Env} {Q : V → St → Prop}

theorem EV_ListComp {x : Str} {px : Pos} {elt iter : PySem.Expr} {scope : Scope} {cl : List (Str × Addr)} {pos : Pos}
    (he : EnvOk c env) (hclos : closureFor scope env = pure cl) (hcell : ∀ y ∈ scope.names, y.2 ≠ .cell) (hkind : scope.kind = .function) (hnames : ∀ y ∈ scope.names, y.2 = .local → scope.names.lookup y.1 = some .local) (hx : scope.names.lookup x = some .local)
    (hs : ∀ x, foldedSetIterable iter env x = pure x)
    (h : EV prog c (eval iter env) ρ σ fun X σ₁ => ∃ xs ok, IsIt σ₁ X xs ok ∧ ∀ (c' : Cx w K) (D : Addr), c'.d = c.d → EnvOk c' (compEnvC scope cl c'.L env) → σ₁ D = none →
      ok (upd σ₁ D (.list [])) ∧ CB prog c' x elt (compEnvC scope cl c'.L env) ok D xs [] (upd σ₁ D (.list [])) (fun σ' => Q (.loc D) σ')) :
    EV prog c (eval (.ListComp elt [⟨.Name x px, iter, [], 0⟩] scope pos) env) ρ σ Q := fun s S => by
  rw [eval_ListComp]
  refine wpAny_comprehension_free (use := none) rfl hs hclos hkind hnames (h.run S fun xv s₁ X σ₁ r S₁ g₁ ⟨xs, ok, hi, h₁⟩ => ?_)
  refine comp_core he hcell hkind hx S₁ r hi (fun c' D hd he' hD => ⟨fun o e => by subst e; exact (h₁ c' D hd he' hD).1, (h₁ c' D hd he' hD).2⟩) (fun acc C => compPost (model prog w) c.A (fun _ _ => False) none _ acc C) fun D C s' m σ' hn Sb Gb hCL hC0 hσC hCn q fl => ?_
  refine ⟨m, hn, fun h' hs' => ?_⟩
  obtain ⟨oC, es, ep, hoC, hdC, _⟩ := hn
  have nt : NT oC := fun ⟨_, _, _, e⟩ => by rw [hdC] at e; cases e
  exact ⟨_, σ', .loc D, Sb.but hσC hCL hC0 hoC nt hs'.extBut s'.toks, g₁.trans (Gb.but hCn hoC nt hs'.extBut s'.toks), q⟩

theorem EX_ListComp {y x : Str} {px py spos : Pos} {elt iter : PySem.Expr} {scope : Scope} {cl : List (Str × Addr)} {pos : Pos} {Q : Fl → Loc → St → Prop}
    (he : EnvOk c env) (hsw : swapsWith (.ListComp elt [⟨.Name x px, iter, [], 0⟩] scope pos) (some (.Name y py)) spos.line env = pure true) (hclos : closureFor scope env = pure cl) (hcell : ∀ y ∈ scope.names, y.2 ≠ .cell) (hkind : scope.kind = .function) (hnames : ∀ y ∈ scope.names, y.2 = .local → scope.names.lookup y.1 = some .local) (hx : scope.names.lookup x = some .local)
    (hy : env.kindOf y = some .local) (hs : ∀ x, foldedSetIterable iter env x = pure x)
    (h : EV prog c (eval iter env) ρ σ fun X σ₁ => ∃ xs ok, IsIt σ₁ X xs ok ∧ ∀ (c' : Cx w K) (D : Addr), c'.d = c.d → EnvOk c' (compEnvC scope cl c'.L env) → σ₁ D = none →
      ok (upd σ₁ D (.list [])) ∧ CB prog c' x elt (compEnvC scope cl c'.L env) ok D xs [] (upd σ₁ D (.list [])) (fun σ' => Q .next (lset ρ y (.loc D)) σ')) :
    EX prog c (exec (.Assign [.Name y py] (.ListComp elt [⟨.Name x px, iter, [], 0⟩] scope pos) spos) env) ρ σ Q := fun s S => by
  rw [exec_Assign_Name_used _ _ _ _ hsw]
  refine wpAny_bind (wpAny_standAt (wpAny_bind ?_))
  show wpAny _ c.A (do let _ ← comprehension (.ListComp elt [⟨.Name x px, iter, [], 0⟩] scope pos) scope env _ (newList []) false (eval iter env) (some (assign (.Name y py) env))) _ _ s
  refine wpAny_bind (wpAny_mono (wpAny_comprehension_free (use := some (assign (.Name y py) env)) (Q := fun _ s' => ∃ fl ρ' σ', FR s'.heap .next fl ∧ Sim prog c ρ' σ' s' ∧ Go c.L σ s σ' s' ∧ Q fl ρ' σ') rfl hs hclos hkind hnames
    (h.run S fun xv s₁ X σ₁ r S₁ g₁ ⟨xs, ok, hi, h₁⟩ => ?_)) (fun _ s' hq => wpAny_pure (wpAny_pure hq)) fun _ _ e => e)
  refine comp_core (Q := fun V σ' => Q .next (lset ρ y V) σ') he hcell hkind hx S₁ r hi (fun c' D hd he' hD => ⟨fun o e => by subst e; exact (h₁ c' D hd he' hD).1, (h₁ c' D hd he' hD).2⟩) (fun acc C => compPost (model prog w) c.A (fun _ _ => False) (some (assign (.Name y py) env)) _ acc C) fun D C s' m σ' hn Sb Gb hCL hC0 hσC hCn q fl => ?_
  show wpAny _ c.A (assign (.Name y py) env (.ref D)) _ _ _
  refine wpAny_assign_Name (store_local he hy Sb (.loc D) fun s₂ S₂ g₂ => ?_)
  obtain ⟨oC, es, ep, hoC, hdC, r1⟩ := hn
  have hoC2 := g₂.keep C oC hσC hCL hoC
  have nt : NT oC := fun ⟨_, _, _, e⟩ => by rw [hdC] at e; cases e
  refine ⟨m, ⟨oC, es, ep, hoC2, hdC, r1⟩, fun h' hs' => ?_⟩
  exact ⟨.next, _, σ', trivial, S₂.but hσC hCL hC0 hoC2 nt hs'.extBut s₂.toks, g₁.trans ((Gb.trans g₂).but hCn hoC2 nt hs'.extBut s₂.toks), q⟩

/-! a def within a def -/
/-- the table of a code object that makes one function -/
inductive TabIs (P : Addr) (pos : Pos) (qual : Str) (σ : St) : Prop
  | new : σ P = some (.raw (tabObj #[])) → TabIs P pos qual σ
  | old {c' : Addr} {oc : Obj} {vs : Array Value} {t : Tok} : σ P = some (.raw (tabObj #[rawInt pos.line, rawInt pos.col, .ref c'])) → σ c' = some (.raw oc) → oc.data = .fields vs → vs[1]? = some (.str qual t) → c' ≠ P → TabIs P pos qual σ

theorem EX_def {name : Str} {params : Arguments} {body : List Stmt} {scope : Scope} {pos : Pos} {cd P : Addr} {clos : List (Str × Addr)} {Q : Fl → Loc → St → Prop} {qual : Str}
    (he : EnvOk c env) (hd0 : params.defaults = []) (hk0 : params.kw_defaults = []) (ha : annTrees params none env = []) (hy : env.kindOf name = some .local) (hqn : qualnameIn env name name = qual)
    (hcode : env.code = .ref cd) (C : CodeHd c.h₀ cd P) (hcl : closureFor scope env = pure clos) (hT : TabIs P pos qual σ)
    (h : ∀ f c' ctv doc pm σ', f ≠ c' → f ≠ P → c' ≠ P → σ f = none → (∃ oc vs t, σ' c' = some (.raw oc) ∧ oc.data = .fields vs ∧ vs[1]? = some (.str qual t)) →
      σ' f = some (.raw { cls := .type "function", data := .func (fnX name qual params body scope clos .none .none doc pm none (.ref c') ctv) }) → TabIs P pos qual σ' → (∀ a, a ≠ P → a ≠ f → (σ a ≠ none → σ' a = σ a) ∧ (a ≠ c' → σ' a = σ a)) →
      Q .next (lset ρ name (.loc f)) σ') : EX prog c (exec (.FunctionDef name params body [] none [] scope none name pos) env) ρ σ Q := fun s S => by
  refine nestDef_K hd0 hk0 ha ?_
  rw [hqn]
  obtain ⟨m, F⟩ := S.fr
  have hgs := c.T.g.keeps F.keep
  obtain ⟨bm, ob, b1, b2, b3, b4, b5, b6⟩ := c.T.bmain
  have hbG : bm ≠ mainGlobals := fun q => by
    obtain ⟨o, es, ep, e, hd, _⟩ := c.T.g
    rw [q, e] at b3; cases b3; rw [hd] at b6; cases b6
  have base : ∀ ps, σ P = some (.raw (tabObj ps)) → s.heap.get? P = some (tabObj ps) ∧ mainGlobals ≠ P ∧ bm ≠ P ∧ P ≠ c.L := fun ps hP => by
    obtain ⟨hL, h0, hp, _⟩ := S.obj _ _ hP
    refine ⟨hp, fun q => ?_, fun q => ?_, hL⟩
    · obtain ⟨o, es, ep, e, hd, _⟩ := hgs
      rw [q, hp] at e; cases e; cases hd
    · have e := F.keep _ _ b3
      rw [q, hp] at e; cases e; cases b4
  cases hT with
  | new hP =>
    obtain ⟨hp, hgP, hbP, hPL⟩ := base _ hP
    refine makeFunction_K (mg := c.mg) hcl he.gl hgs hcode (C.keeps F.keep) hp (show TriplesOk [] by unfold TriplesOk; trivial) (by rfl) hgP ⟨bm, ob, b1, b2, hbG, hbP, F.keep _ _ b3, b4, b5, b6⟩ fun c' ctv doc h' tk hx hge hlt hrec htb => ?_
    obtain ⟨c₂, oc, vs, t, e2, hoc, hd, hv⟩ := hrec
    cases e2
    -- the table has grown
    have ntP : NT (tabObj #[]) := fun ⟨e, _⟩ => by cases e
    obtain ⟨S1, G1⟩ : Sim prog c ρ (upd σ P (.raw (tabObj #[rawInt pos.line, rawInt pos.col, .ref c']))) { s with heap := h', toks := tk } ∧ Go c.L σ s (upd σ P (.raw (tabObj #[rawInt pos.line, rawInt pos.col, .ref c']))) { s with heap := h', toks := tk } := by
      obtain ⟨m, F, R⟩ := S.loc
      exact S.change2 hP R ⟨F.ns.extBut hx hPL.symm, fun b o e => hx b o (fun q => by subst q; have := (S.obj _ _ hP).2.1; rw [e] at this; cases this) (F.keep b o e), F.above⟩ (fun b ob hb _ e => hx b ob hb e) _ tk fun _ => ⟨by simpa using htb, fun _ _ e => by cases e⟩
    have hc'n : s.heap.get? c' = none := Heap.get?_none_of_le hge
    have hc'P : c' ≠ P := fun z => by rw [z, hp] at hc'n; cases hc'n
    have hc'L : c' ≠ c.L := fun z => by
      obtain ⟨oL, _, _, hL, _⟩ := F.ns
      rw [z, hL] at hc'n; cases hc'n
    have hc'0 : c.h₀.get? c' = none := by
      cases z : c.h₀.get? c' with
      | none => rfl
      | some o => have := F.keep _ _ z; rw [hc'n] at this; cases this
    have hσc' : σ c' = none := by
      cases z : σ c' with
      | none => rfl
      | some ao => obtain ⟨ob, hob, _⟩ := (S.obj _ _ z).2.2.nt; rw [hc'n] at hob; cases hob
    have S2 : Sim prog c ρ (upd (upd σ P (.raw (tabObj #[rawInt pos.line, rawInt pos.col, .ref c']))) c' (.raw oc)) { s with heap := h', toks := tk } :=
      ⟨S1.loc, fun a o e => by
        unfold upd at e
        split at e
        · rename_i z; cases e; subst z; exact ⟨hc'L, hc'0, hoc, fun _ _ e => by rw [hd] at e; cases e⟩
        · exact S1.obj a o e⟩
    have G2 : Go c.L σ s (upd (upd σ P (.raw (tabObj #[rawInt pos.line, rawInt pos.col, .ref c']))) c' (.raw oc)) { s with heap := h', toks := tk } :=
      ⟨G1.st, G1.keep, G1.tk, fun b hb hb' => by
        unfold upd at hb'
        split at hb'
        · rename_i z; subst z; exact ⟨hc'L, hc'n⟩
        · exact G1.new b hb hb'⟩
    have S3 := S2.pushO (fnMade name qual params body scope clos doc ((c.mg "__name__").getD .none) c' ctv) (.raw (fnMade name qual params body scope clos doc ((c.mg "__name__").getD .none) c' ctv)) tk ⟨Heap.get?_push_size _ rfl, fun _ _ e => by cases e⟩
    have G3 := Go.pushO S2 (fnMade name qual params body scope clos doc ((c.mg "__name__").getD .none) c' ctv) (.raw (fnMade name qual params body scope clos doc ((c.mg "__name__").getD .none) c' ctv)) tk
    have hfn : σ h'.objs.size = none := by
      cases z : σ h'.objs.size with
      | none => rfl
      | some ao =>
        obtain ⟨ob, hob, _⟩ := (S.obj _ _ z).2.2.nt
        have h1 : @LT.lt Nat _ h'.objs.size s.heap.objs.size := Heap.lt_size hob
        have h2 : @LE.le Nat _ s.heap.objs.size c' := hge
        have h3 : @LT.lt Nat _ c' h'.objs.size := hlt
        omega
    have hfc' : h'.objs.size ≠ c' := Nat.ne_of_gt hlt
    have hfP : h'.objs.size ≠ P := fun z => by rw [z, hP] at hfn; cases hfn
    refine store_local he hy S3 (.loc _) fun s4 S4 G4 => ⟨.next, _, _, trivial, S4, (G2.trans G3).trans G4, h h'.objs.size c' ctv doc _ _ hfc' hfP hc'P hfn ⟨oc, vs, t, ?_, hd, hv⟩ (upd_same _ _ _) (.old (c' := c') (oc := oc) (vs := vs) (t := t) ?_ ?_ hd hv hc'P) ?_⟩
    · rw [upd_ne (Ne.symm hfc'), upd_same]
    · rw [upd_ne (Ne.symm hfP), upd_ne (Ne.symm hc'P), upd_same]
    · rw [upd_ne (Ne.symm hfc'), upd_same]
    · intro a haP haf
      refine ⟨fun hn => ?_, fun hac => ?_⟩
      · have hac : a ≠ c' := fun z => by subst z; exact hn hσc'
        rw [upd_ne haf, upd_ne hac, upd_ne haP]
      · rw [upd_ne haf, upd_ne hac, upd_ne haP]
  | @old c' oc vs t hP hc hd hv hne =>
    obtain ⟨hp, hgP, hbP, hPL⟩ := base _ hP
    have hf : codeAmong pos (#[rawInt pos.line, rawInt pos.col, .ref c'] : Array Value).toList = some (.ref c') := by
      simp [codeAmong, rawInt]
    refine makeFunction_hit (mg := c.mg) hcl he.gl hgs hcode (C.keeps F.keep) hp (TriplesOk_snoc _ _ _ [] (by unfold TriplesOk; trivial)) hf ⟨bm, ob, b1, b2, hbG, hbP, F.keep _ _ b3, b4, b5, b6⟩ fun ctv doc h' tk hk hsz => ?_
    have S2 := S.ext tk hk
    have G2 := Go.ext (s := s) c.L σ tk hk
    have S3 := S2.pushO (fnMade name qual params body scope clos doc ((c.mg "__name__").getD .none) c' ctv) (.raw (fnMade name qual params body scope clos doc ((c.mg "__name__").getD .none) c' ctv)) tk ⟨Heap.get?_push_size _ rfl, fun _ _ e => by cases e⟩
    have G3 := Go.pushO S2 (fnMade name qual params body scope clos doc ((c.mg "__name__").getD .none) c' ctv) (.raw (fnMade name qual params body scope clos doc ((c.mg "__name__").getD .none) c' ctv)) tk
    have hfn : σ h'.objs.size = none := S2.freshAt
    have hfP : h'.objs.size ≠ P := fun z => by rw [z, hP] at hfn; cases hfn
    have hfc : h'.objs.size ≠ c' := fun z => by rw [z, hc] at hfn; cases hfn
    refine store_local he hy S3 (.loc _) fun s4 S4 G4 => ⟨.next, _, _, trivial, S4, (G2.trans G3).trans G4, h h'.objs.size c' ctv doc _ _ hfc hfP hne hfn ⟨oc, vs, t, ?_, hd, hv⟩ (upd_same _ _ _) (.old (c' := c') (oc := oc) (vs := vs) (t := t) ?_ ?_ hd hv hne) ?_⟩
    · rw [upd_ne (Ne.symm hfc)]; exact hc
    · rw [upd_ne (Ne.symm hfP)]; exact hP
    · rw [upd_ne (Ne.symm hfc)]; exact hc
    · intro a haP haf
      exact ⟨fun _ => upd_ne haf, fun _ => upd_ne haf⟩
end
end RH
set_option Elab.async false
set_option maxRecDepth 10000
set_option linter.all false
namespace RH
open PySem PySem.W PySem.Calls PyProof.Rows

section
variable {prog : Program} {w : World} {K : Frag} {c : Cx w K} {ρ : Loc} {σ : St} {env : Env} {Q : V → St → Prop}

/-! built-ins by name -/
theorem EV_bcall {x : Str} {id : String} {np pos : Pos} {e : PySem.Expr} {rest : List PySem.Expr} (he : EnvOk c env) (hk : env.kindOf x = some .globalImplicit) (hd : (x == ("__debug__" : Str)) = false) (hn : nsIn K mainGlobals x = some none) (hb : bootBuiltins x = some (.builtin id)) (hnn : x ≠ "__name__")
    (hc : eval (.Call (.Name x np) (e :: rest) [] pos) env = (do callWith pos (← eval (.Name x np) env) [] (backTo pos (starEach (e :: rest) env)) (backToKw pos (keywordEach [] env))))
    (hs : starEach (e :: rest) env = (false, eval e env) :: starEach rest env) (hplain : (backTo pos (starEach rest env)).any (·.1) = false)
    (h : EVs prog c (spliced (backTo pos (starEach (e :: rest) env))) ρ σ fun xs σ₁ => OPn prog c (fun vs => call (.builtin id) vs) xs ρ σ₁ Q) :
    EV prog c (eval (.Call (.Name x np) (e :: rest) [] pos) env) ρ σ Q := fun s S =>
  Call_ (EV_builtin_raw S he hk hd hn hb hnn (PyProof.Rows.callWith_builtin1 (h.run S fun vs s₁ xs σ₁ rs S₁ g₁ h₁ => OPn.run (f := fun vs => call (.builtin id) vs) h₁ S₁ rs fun v s₂ V σ₂ r S₂ g₂ q => ⟨V, σ₂, r, S₂, g₁.trans g₂, q⟩) hs hplain)) hc
theorem EV_tcall {x : Str} {T : String} {np pos : Pos} {e : PySem.Expr} {rest : List PySem.Expr} (he : EnvOk c env) (hk : env.kindOf x = some .globalImplicit) (hd : (x == ("__debug__" : Str)) = false) (hn : nsIn K mainGlobals x = some none) (hb : bootBuiltins x = some (.type T)) (hnn : x ≠ "__name__")
    (hc : eval (.Call (.Name x np) (e :: rest) [] pos) env = (do callWith pos (← eval (.Name x np) env) [] (backTo pos (starEach (e :: rest) env)) (backToKw pos (keywordEach [] env))))
    (hs : starEach (e :: rest) env = (false, eval e env) :: starEach rest env) (hplain : (backTo pos (starEach rest env)).any (·.1) = false)
    (h : EVs prog c (spliced (backTo pos (starEach (e :: rest) env))) ρ σ fun xs σ₁ => OPn prog c (fun vs => call (.type T) vs) xs ρ σ₁ Q) :
    EV prog c (eval (.Call (.Name x np) (e :: rest) [] pos) env) ρ σ Q := fun s S =>
  Call_ (EV_builtin_raw S he hk hd hn hb hnn (PyProof.Rows.callWith_type1 (h.run S fun vs s₁ xs σ₁ rs S₁ g₁ h₁ => OPn.run (f := fun vs => call (.type T) vs) h₁ S₁ rs fun v s₂ V σ₂ r S₂ g₂ q => ⟨V, σ₂, r, S₂, g₁.trans g₂, q⟩) hs hplain)) hc

theorem len_items {h : Heap} {items : Array Value} {vs : List V} (r : VRs h items.toList vs) : items.size = vs.length := by rw [← r.length, Array.length_toList]
theorem OP_len_list {a : Addr} {vs : List V} (ha : σ a = some (.list vs)) (hz : vs.length ≤ 1000000) (h : Q (.int vs.length) σ) : OPn prog c (fun vs => call (.builtin "len") vs) [.loc a] ρ σ Q := fun s us S rs => by
  cases rs with | cons r rs => cases rs; cases r
                               obtain ⟨_, _, items, hl, hv⟩ := S.obj _ _ ha
                               have hs := len_items hv
                               refine call_len_list hl.isList (by omega) ⟨_, σ, ?_, S.toks _, Go.toks _ _ _, h⟩
                               rw [hs]; exact .int _ _
theorem OP_len_tuple {vs : List V} (hz : vs.length ≤ 1000000) (h : Q (.int vs.length) σ) : OPn prog c (fun vs => call (.builtin "len") vs) [.tup vs] ρ σ Q := fun s us S rs => by
  cases rs with | cons r rs => cases rs; cases r with | tup ht hv =>
                                         have hs := len_items hv
                                         refine PyProof.Rows.len_tuple ht (by omega) ⟨_, σ, ?_, S.toks _, Go.toks _ _ _, h⟩
                                         rw [hs]; exact .int _ _
theorem OP_len_dictI {a : Addr} {kvs : List (Int × V)} (ha : σ a = some (.dictI kvs)) (hz : kvs.length ≤ 1000000) (h : Q (.int kvs.length) σ) : OPn prog c (fun vs => call (.builtin "len") vs) [.loc a] ρ σ Q := fun s us S rs => by
  cases rs with | cons r rs => cases rs; cases r
                               obtain ⟨_, _, z, kv, hd, hk, hv⟩ := S.obj _ _ ha
                               have hl : kv.length = kvs.length := by have := congrArg List.length hk; simpa using this
                               refine call_len_dict z hd (by omega) ⟨_, σ, ?_, S.toks _, Go.toks _ _ _, h⟩
                               rw [hl]; exact .int _ _
theorem OP_abs {i : Int} (h : Q (.int (if i < 0 then -i else i)) σ) : OPn prog c (fun vs => call (.builtin "abs") vs) [.int i] ρ σ Q := fun s us S rs => by
  cases rs with | cons r rs => cases rs; cases r
                               exact call_abs_int fun u tk => ⟨_, σ, .int _ _, S.toks _, Go.toks _ _ _, h⟩
theorem OP_range {i : Int} (h : ∀ a t u v, σ a = none → Q (.loc a) (upd σ a (.raw { cls := .type "range", data := .fields #[.int 0 t, .int i u, .int 1 v] }))) : OPn prog c (fun vs => call (.type "range") vs) [.int i] ρ σ Q := fun s us S rs => by
  cases rs with | cons r rs => cases rs; cases r
                               refine call_range_1 ?_
                               exact ⟨_, _, .loc _, S.pushO _ (.raw { cls := .type "range", data := .fields #[.int 0 s.toks, .int i _, .int 1 (s.toks + 1)] }) _ (show OR prog w _ _ (.raw _) from ⟨Heap.get?_push_size _ rfl, fun _ _ e => by cases e⟩), Go.pushO S _ _ _, h _ _ _ _ S.freshAt⟩
theorem OP_tuple_list {a : Addr} {vs : List V} (ha : σ a = some (.list vs)) (hz : vs.length ≤ 1000000) (h : Q (.tup vs) σ) : OPn prog c (fun vs => call (.type "tuple") vs) [.loc a] ρ σ Q := fun s us S rs => by
  cases rs with | cons r rs => cases rs; cases r
                               obtain ⟨_, _, items, hl, hv⟩ := S.obj _ _ ha
                               have hs := len_items hv
                               refine call_tuple_list hl.isList (fun h' k => ?_) (by rw [hs]; exact Nat.le_trans hz (by decide))
                               have S1 := S.ext s.toks k
                               exact ⟨_, σ, .tup ⟨_, Heap.get?_push_size _ rfl, rfl, 0, rfl⟩ ((hv.mono (tk_of_ext k)).mono (TK.push _ _)), S1.pushT _ _, (Go.ext (s := s) c.L σ s.toks k).trans (Go.pushT _ _ _ _), h⟩

/-! methods of built-in values -/
theorem EV_bmeth {o : PySem.Expr} {name : Str} {T id : String} {apos pos : Pos} {e : PySem.Expr} {rest : List PySem.Expr} (hbase : attributeBase o name env (eval o env) = eval o env)
    (hfew : ((backTo pos (starEach (e :: rest) env)).all (fun x => !x.1) && (backToKw pos (keywordEach [] env)).all (fun x => x.1.isSome) && decide ((e :: rest).length + ([] : List Keyword).length + (if ([] : List Keyword).isEmpty then 0 else 1) < 30)) = true)
    (hline : (apos.endLine == pos.line) = true) (pa : PlainAttrs T) (slot : Slot T name id) (hty : typeOf (.builtin id) = pure (.type "method_descriptor"))
    (hs : starEach (e :: rest) env = (false, eval e env) :: starEach rest env) (hplain : (backTo pos (starEach rest env)).any (·.1) = false)
    (h : EV prog c (eval o env) ρ σ fun X σ₁ => ∃ a, X = .loc a ∧ (∀ s, Sim prog c ρ σ₁ s → s.TypeIs (.ref a) T ∧ ∃ ob, s.heap.get? a = some ob ∧ ob.dict = none) ∧
      EVs prog c (spliced (backTo pos (starEach (e :: rest) env))) ρ σ₁ fun xs σ₂ => OPn prog c (fun vs => call (.builtin id) vs) (.loc a :: xs) ρ σ₂ Q) :
    EV prog c (eval (.Call (.Attribute o name apos) (e :: rest) [] pos) env) ρ σ Q := fun s S =>
  wpAny_Call_method hbase hfew hline pa slot hty (h.run S fun ov s₁ X σ₁ r S₁ g₁ ⟨a, ex, hT, h₁⟩ => by
    subst ex; cases r
    obtain ⟨t1, t2⟩ := hT s₁ S₁
    refine ⟨t1, fun b hb => by cases hb; exact t2, callWith_method1 (h₁.run S₁ fun vs s₂ xs σ₂ rs S₂ g₂ h₂ => ?_) hs hplain⟩
    exact OPn.run (f := fun vs => call (.builtin id) vs) h₂ S₂ (.cons (.loc a) rs) fun v s₃ V σ₃ r S₃ g₃ q => ⟨V, σ₃, r, S₃, (g₁.trans g₂).trans g₃, q⟩)
theorem EV_bmeth0 {o : PySem.Expr} {name : Str} {T id : String} {apos pos : Pos} (hbase : attributeBase o name env (eval o env) = eval o env)
    (hline : (apos.endLine == pos.line) = true) (pa : PlainAttrs T) (slot : Slot T name id) (hty : typeOf (.builtin id) = pure (.type "method_descriptor"))
    (h : EV prog c (eval o env) ρ σ fun X σ₁ => ∃ a, X = .loc a ∧ (∀ s, Sim prog c ρ σ₁ s → s.TypeIs (.ref a) T ∧ ∃ ob, s.heap.get? a = some ob ∧ ob.dict = none) ∧ OPn prog c (fun vs => call (.builtin id) vs) [.loc a] ρ σ₁ Q) :
    EV prog c (eval (.Call (.Attribute o name apos) [] [] pos) env) ρ σ Q := fun s S =>
  wpAny_Call_method hbase rfl hline pa slot hty (h.run S fun ov s₁ X σ₁ r S₁ g₁ ⟨a, ex, hT, h₁⟩ => by
    subst ex; cases r
    obtain ⟨t1, t2⟩ := hT s₁ S₁
    exact ⟨t1, fun b hb => by cases hb; exact t2, callWith_method0 (OPn.run (f := fun vs => call (.builtin id) vs) h₁ S₁ (.cons (.loc a) .nil) fun v s₃ V σ₃ r S₃ g₃ q => ⟨V, σ₃, r, S₃, g₁.trans g₃, q⟩)⟩)
theorem isListT {a : Addr} {vs : List V} (ha : σ a = some (.list vs)) : ∀ s, Sim prog c ρ σ s → s.TypeIs (.ref a) "list" ∧ ∃ ob, s.heap.get? a = some ob ∧ ob.dict = none := fun s S => by
  obtain ⟨_, _, items, ⟨n, hn⟩, _⟩ := S.obj _ _ ha
  exact ⟨⟨_, hn, rfl⟩, _, hn, rfl⟩
theorem isDictI {a : Addr} {vs : List (Int × V)} (ha : σ a = some (.dictI vs)) : ∀ s, Sim prog c ρ σ s → s.TypeIs (.ref a) "dict" ∧ ∃ ob, s.heap.get? a = some ob ∧ ob.dict = none := fun s S => by
  obtain ⟨_, _, _, kv, ⟨o, es, ep, ho, hx, _⟩, _⟩ := S.obj _ _ ha
  exact ⟨⟨_, ho, hx.1⟩, _, ho, hx.2.1⟩
theorem isDictS {a : Addr} {vs : List (Str × V)} (ha : σ a = some (.dictS vs)) : ∀ s, Sim prog c ρ σ s → s.TypeIs (.ref a) "dict" ∧ ∃ ob, s.heap.get? a = some ob ∧ ob.dict = none := fun s S => by
  obtain ⟨_, _, _, kv, ⟨o, es, ep, ho, hx, _⟩, _⟩ := S.obj _ _ ha
  exact ⟨⟨_, ho, hx.1⟩, _, ho, hx.2.1⟩
theorem isDictT {a : Addr} {vs : List (List Int × V)} (ha : σ a = some (.dictT vs)) : ∀ s, Sim prog c ρ σ s → s.TypeIs (.ref a) "dict" ∧ ∃ ob, s.heap.get? a = some ob ∧ ob.dict = none := fun s S => by
  obtain ⟨_, _, _, kv, ⟨o, es, ep, ho, hx, _⟩, _⟩ := S.obj _ _ ha
  exact ⟨⟨_, ho, hx.1⟩, _, ho, hx.2.1⟩

theorem OP_append {a : Addr} {ys : List V} {y : V} (ha : σ a = some (.list ys)) (hz : ys.length ≤ 1000000) (h : Q .none (upd σ a (.list (ys ++ [y])))) : OPn prog c (fun vs => call (.builtin "list.append") vs) [.loc a, y] ρ σ Q := fun s us S rs => by
  cases rs with | cons r rs => cases rs with | cons r' rs => cases rs; cases r
                                                             exact append_op S ha hz r' fun s' S' g' => ⟨_, _, .none, S', g', h⟩
theorem OP_pop {a : Addr} {ys : List V} {y : V} (ha : σ a = some (.list (ys ++ [y]))) (hz : ys.length ≤ 1000000) (h : Q y (upd σ a (.list ys))) : OPn prog c (fun vs => call (.builtin "list.pop") vs) [.loc a] ρ σ Q := fun s us S rs => by
  cases rs with | cons r rs => cases rs; cases r
                               obtain ⟨_, _, items, ⟨n, hn⟩, hv⟩ := S.obj _ _ ha
                               have hs := len_items hv
                               obtain ⟨ws, v, e, hw, rv⟩ := hv.unsnoc
                               have hi : items = (ws ++ [v]).toArray := by rw [← e]
                               subst hi
                               have hwl := hw.length
                               refine Copied.pop_at (y := v) hn (by simp) (fun h' hs' hn' => ?_) (by simp; exact Nat.le_trans (by omega) (by decide : 1000001 ≤ sizeLine))
                               have tk : TK s.heap h' := tk_of_same hs' hn fun ⟨e, _⟩ => by simp at e
                               exact ⟨_, _, rv.mono tk, S.change ha hs' (.list ys) s.toks ⟨_, ⟨_, hn'⟩, by simpa using hw.mono tk⟩, Go.change S ha hs' _ _, h⟩
theorem OP_reverse {a : Addr} {ys : List V} (ha : σ a = some (.list ys)) (hz : ys.length ≤ 1000000) (h : Q .none (upd σ a (.list ys.reverse))) : OPn prog c (fun vs => call (.builtin "list.reverse") vs) [.loc a] ρ σ Q := fun s us S rs => by
  cases rs with | cons r rs => cases rs; cases r
                               obtain ⟨_, _, items, ⟨n, hn⟩, hv⟩ := S.obj _ _ ha
                               have hs := len_items hv
                               refine call_meets F.slot_list_reverse ⟨_, hn, rfl⟩ F.entry_list_reverse (F.args_list_reverse_1 _) (AutoListH.list_reverse_list_0 a _ n (by rw [hs]; exact Nat.le_trans hz (by decide))) ⟨hn, ?_⟩
                               have hs' : Heap.SameBut a s.heap (s.heap.update a (Obj.mapSeq fun x => x.reverse)) := Heap.SameBut.update ..
                               have tk : TK s.heap (s.heap.update a (Obj.mapSeq fun x => x.reverse)) := tk_of_same hs' hn fun ⟨e, _⟩ => by simp at e
                               exact ⟨_, _, .none, S.change ha hs' (.list ys.reverse) s.toks ⟨items.reverse, ⟨n, (Heap.get?_update_self _ hn rfl).trans (by simp only [Obj.mapSeq]; simp)⟩, by simpa using (hv.mono tk).reverse⟩, Go.change S ha hs' _ _, h⟩
end
end RH
set_option Elab.async false
set_option maxRecDepth 10000
set_option linter.all false
namespace RH
open PySem PySem.W PySem.Calls PyProof.Rows

section
variable {prog : Program} {w : World} {K : Frag} {c : Cx w K} {ρ : Loc} {σ : St} {env : Env} {Q : V → St → Prop}

/-! indexing -/
def seqOf (σ : St) : V → Option (List V)
  | .tup vs => some vs
  | .loc a => match σ a with
    | some (.list vs) => some vs
    | _ => none
  | _ => none
def vidx (vs : List V) (k : Int) : Option V :=
  if k < -1000001 ∨ 1000001 < k then none
  else if 0 ≤ k then vs[k.toNat]?
  else if -(vs.length : Int) ≤ k then vs[(k + vs.length).toNat]? else none

theorem seqIx {k : Int} {n : Nat} (h : 0 ≤ k) (h2 : k.toNat < n) : seqIndex? k n = some k.toNat := by
  have e : ¬ k < 0 := by omega
  have e2 : k < (n : Int) := by omega
  simp [seqIndex?, e, h, e2]
theorem seqIxN {k : Int} {n : Nat} (h : k < 0) (h1 : -(n : Int) ≤ k) (h2 : (k + n).toNat < n) : seqIndex? k n = some (k + n).toNat := by
  have e : 0 ≤ k + n := by omega
  have e2 : k + n < (n : Int) := by omega
  simp [seqIndex?, h, e, e2]
theorem EV_Sub {value slice : PySem.Expr} {pos : Pos} (hs : ∀ o i, subscripted slice false o i = operate [o, i] (getItem o i))
    (h : EV prog c (eval value env) ρ σ fun X σ₁ => EV prog c (eval slice env) ρ σ₁ fun I σ₂ => ∃ vs k V, seqOf σ₂ X = some vs ∧ I = .int k ∧ vidx vs k = some V ∧ Q V σ₂) :
    EV prog c (eval (.Subscript value slice pos) env) ρ σ Q := fun s S =>
  Subscript_ (h.run S fun o s₁ X σ₁ rX S₁ g₁ h₁ => h₁.run S₁ fun i s₂ I σ₂ rI S₂ g₂ ⟨vs, k, V, hq, ek, hv, q⟩ => by
    subst ek
    cases rI with | int _ t =>
    replace rX := rX.mono g₂.tk
    have hb : ¬ (k < -1000001 ∨ 1000001 < k) := fun e => by rw [vidx, if_pos e] at hv; cases hv
    rw [vidx, if_neg hb] at hv
    cases rX with
    | none => cases hq
    | bool b => cases hq
    | int i t => cases hq
    | str x t => cases hq
    | @tup a items vs' ht hvs =>
      cases hq
      have hsz := len_items hvs
      by_cases h0 : 0 ≤ k
      · rw [if_pos h0] at hv
        obtain ⟨v, hi, rv⟩ := items_get hvs hv
        have hlt : k.toNat < vs.length := (List.getElem?_eq_some_iff.mp hv).1
        refine tail_any (T := "tuple") ht.typeIs slot_tuple_getitem.lookup (PyProof.Rows.getItem_tuple (j := k.toNat) ht (by omega) (by omega) (seqIx h0 (by rw [hsz]; exact hlt)) hi ⟨V, σ₂, rv, S₂, g₁.trans g₂, q⟩) (hs _ _)
      · rw [if_neg h0] at hv
        by_cases h1 : -(vs.length : Int) ≤ k
        · rw [if_pos h1] at hv
          obtain ⟨v, hi, rv⟩ := items_get hvs hv
          have hlt : (k + vs.length).toNat < vs.length := (List.getElem?_eq_some_iff.mp hv).1
          refine tail_any (T := "tuple") ht.typeIs slot_tuple_getitem.lookup (PyProof.Rows.getItem_tuple (j := (k + vs.length).toNat) ht (by omega) (by omega) (by rw [hsz]; exact seqIxN (by omega) h1 hlt) hi ⟨V, σ₂, rv, S₂, g₁.trans g₂, q⟩) (hs _ _)
        · rw [if_neg h1] at hv; cases hv
    | loc a =>
      have hl : ∃ vs', σ₂ a = some (.list vs') ∧ vs' = vs := by
        simp only [seqOf] at hq
        split at hq
        · cases hq; exact ⟨_, by assumption, rfl⟩
        · cases hq
      obtain ⟨_, hl, rfl⟩ := hl
      obtain ⟨_, _, items, hpl, hvs⟩ := S₂.obj _ _ hl
      have hsz := len_items hvs
      rename_i vs'
      by_cases h0 : 0 ≤ k
      · rw [if_pos h0] at hv
        obtain ⟨v, hi, rv⟩ := items_get hvs hv
        exact tail_any (T := "list") hpl.isList.typeIs slot_list_getitem.lookup (wpAny_getItem_list hpl.isList h0 (by omega) hi ⟨V, σ₂, rv, S₂, g₁.trans g₂, q⟩) (hs _ _)
      · rw [if_neg h0] at hv
        split at hv
        · rename_i h1
          obtain ⟨v, hi, rv⟩ := items_get hvs hv
          exact tail_any (T := "list") hpl.isList.typeIs slot_list_getitem.lookup (wpAny_getItem_list_neg hpl.isList (by omega) (by omega) (by omega) (by rw [hsz]; exact hi) ⟨V, σ₂, rv, S₂, g₁.trans g₂, q⟩) (hs _ _)
        · cases hv)

/-! tables -/
def kget {κ : Type} [DecidableEq κ] (kvs : List (κ × V)) (k : κ) : Option V := (kvs.find? fun kv => kv.1 = k).map (·.2)
def kset {κ : Type} [DecidableEq κ] (kvs : List (κ × V)) (k : κ) (v : V) : List (κ × V) :=
  if kvs.any (fun kv => kv.1 = k) then kvs.map (fun kv => if kv.1 = k then (kv.1, v) else kv) else kvs ++ [(k, v)]
theorem KR.at {κ : Type} [DecidableEq κ] {h : Heap} : ∀ {kvs : List (κ × V)} {kv : List (κ × Value)}, kv.map (·.1) = kvs.map (·.1) → VRs h (kv.map (·.2)) (kvs.map (·.2)) → ∀ k, CR h (valueAt kv k) (kget kvs k)
  | [], [], _, _, k => trivial
  | [], _ :: _, e, _, _ => by simp at e
  | _ :: _, [], e, _, _ => by simp at e
  | (k', x) :: kvs, (k'', v) :: kv, e, r, k => by
    simp only [List.map_cons, List.cons.injEq] at e r
    cases r with
    | cons ra rb =>
      have ih := KR.at e.2 rb k
      have e1 : k'' = k' := e.1
      subst e1
      unfold valueAt kget at *
      simp only [List.find?_cons]
      by_cases q : k'' = k
      · simp only [q, decide_true]; exact ra
      · simp only [q, decide_false]; exact ih
theorem KR.map {κ : Type} [DecidableEq κ] {h : Heap} {k : κ} {v : Value} {x : V} (rv : VR h v x) : ∀ {kvs : List (κ × V)} {kv : List (κ × Value)}, kv.map (·.1) = kvs.map (·.1) → VRs h (kv.map (·.2)) (kvs.map (·.2)) →
    (kv.map (fun p => if p.1 = k then (p.1, v) else p)).map (·.1) = (kvs.map (fun p => if p.1 = k then (p.1, x) else p)).map (·.1) ∧ VRs h ((kv.map (fun p => if p.1 = k then (p.1, v) else p)).map (·.2)) ((kvs.map (fun p => if p.1 = k then (p.1, x) else p)).map (·.2))
  | [], [], _, _ => ⟨rfl, .nil⟩
  | [], _ :: _, e, _ => by simp at e
  | _ :: _, [], e, _ => by simp at e
  | (k', y) :: kvs, (k'', u) :: kv, e, r => by
    simp only [List.map_cons, List.cons.injEq] at e r
    cases r with
    | cons ra rb =>
      obtain ⟨i1, i2⟩ := KR.map (k := k) rv e.2 rb
      have e1 : k'' = k' := e.1
      subst e1
      simp only [List.map_cons]
      by_cases q : k'' = k
      · simp only [if_pos q]; exact ⟨by rw [i1], .cons rv i2⟩
      · simp only [if_neg q]; exact ⟨by rw [i1], .cons ra i2⟩
theorem any_keys {κ β : Type} [DecidableEq κ] (k : κ) (kv : List (κ × β)) : kv.any (fun p => p.1 = k) = (kv.map (·.1)).any (fun y => y = k) := by
  rw [List.any_map]; rfl
theorem KR.put {κ : Type} [DecidableEq κ] {h : Heap} {k : κ} {v : Value} {x : V} (rv : VR h v x) {kvs : List (κ × V)} {kv : List (κ × Value)} (e : kv.map (·.1) = kvs.map (·.1)) (r : VRs h (kv.map (·.2)) (kvs.map (·.2))) :
    (stored kv k v).map (·.1) = (kset kvs k x).map (·.1) ∧ VRs h ((stored kv k v).map (·.2)) ((kset kvs k x).map (·.2)) := by
  have ha : kv.any (fun p => p.1 = k) = kvs.any (fun p => p.1 = k) := by rw [any_keys, any_keys, e]
  unfold stored kset
  rw [ha]
  split
  · exact KR.map rv e r
  · refine ⟨by simp [e], ?_⟩
    simp only [List.map_append, List.map_cons, List.map_nil]
    exact r.snoc rv
theorem KR.len {κ : Type} {kvs : List (κ × V)} {kv : List (κ × Value)} (e : kv.map (·.1) = kvs.map (·.1)) : kv.length = kvs.length := by have := congrArg List.length e; simpa using this
theorem KRH.at {κ : Type} [DecidableEq κ] (xs : List (κ × Addr × Value)) (k : κ) : (atKey xs k).map (·.2) = valueAt (xs.map fun p => (p.1, p.2.2)) k := by
  unfold atKey valueAt
  induction xs with
  | nil => rfl
  | cons p r ih =>
    simp only [List.map_cons, List.find?_cons]
    by_cases q : p.1 = k
    · simp [q]
    · simp only [q, decide_false]; exact ih
theorem KRH.put {κ : Type} [DecidableEq κ] (xs : List (κ × Addr × Value)) (k : κ) (a : Addr) (v : Value) : (storedH xs k a v).map (fun p => (p.1, p.2.2)) = stored (xs.map fun p => (p.1, p.2.2)) k v := by
  have ha : (atKey xs k).isSome = (xs.map fun p => (p.1, p.2.2)).any (fun p => p.1 = k) := by
    unfold atKey
    induction xs with
    | nil => rfl
    | cons p r ih =>
      simp only [List.map_cons, List.find?_cons, List.any_cons]
      by_cases q : p.1 = k
      · simp [q]
      · simp only [q, decide_false, Bool.false_or]; exact ih
  unfold storedH stored
  rw [ha]
  split
  · simp only [List.map_map]
    apply List.map_congr_left
    intro p _
    simp only [Function.comp, putAt]
    split <;> rfl
  · simp

theorem OP_in_dictI {a : Addr} {kvs : List (Int × V)} {k : Int} (ha : σ a = some (.dictI kvs)) (h : Q (.bool (kget kvs k).isSome) σ) : OP2 prog c (compareOp .In) (.int k) (.loc a) ρ σ Q := fun s v u S r₁ r₂ => by
  cases r₁ with | int _ t =>
  cases r₂
  obtain ⟨_, _, z, kv, hd, e, r⟩ := S.obj _ _ ha
  have key := KR.at e r k
  have hb : (valueAt kv k).isSome = (kget kvs k).isSome := by
    revert key; cases valueAt kv k <;> cases kget kvs k <;> simp [CR]
  exact wpAny_in_of (intKind_is prog w k t) z hd.mapOf (by rw [hb]; exact ⟨_, σ, .bool _, S.toks _, Go.toks _ _ _, h⟩)
theorem OP_notIn_dictI {a : Addr} {kvs : List (Int × V)} {k : Int} (ha : σ a = some (.dictI kvs)) (h : Q (.bool (!(kget kvs k).isSome)) σ) : OP2 prog c (compareOp .NotIn) (.int k) (.loc a) ρ σ Q := fun s v u S r₁ r₂ => by
  cases r₁ with | int _ t =>
  cases r₂
  obtain ⟨_, _, z, kv, hd, e, r⟩ := S.obj _ _ ha
  have key := KR.at e r k
  have hb : (valueAt kv k).isSome = (kget kvs k).isSome := by
    revert key; cases valueAt kv k <;> cases kget kvs k <;> simp [CR]
  exact wpAny_notIn_of (intKind_is prog w k t) z hd.mapOf (by rw [hb]; exact ⟨_, σ, .bool _, S.toks _, Go.toks _ _ _, h⟩)
theorem EV_SubI {value slice : PySem.Expr} {pos : Pos} (hs : ∀ o i, subscripted slice false o i = operate [o, i] (getItem o i))
    (h : EV prog c (eval value env) ρ σ fun X σ₁ => EV prog c (eval slice env) ρ σ₁ fun I σ₂ => ∃ a kvs k V, X = .loc a ∧ σ₂ a = some (.dictI kvs) ∧ I = .int k ∧ kget kvs k = some V ∧ Q V σ₂) :
    EV prog c (eval (.Subscript value slice pos) env) ρ σ Q := fun s S =>
  Subscript_ (h.run S fun o s₁ X σ₁ rX S₁ g₁ h₁ => h₁.run S₁ fun i s₂ I σ₂ rI S₂ g₂ ⟨a, kvs, k, V, ex, ha, ek, hv, q⟩ => by
    subst ex; subst ek
    cases rI with | int _ t =>
    cases rX
    obtain ⟨_, _, z, kv, hd, e, r⟩ := S₂.obj _ _ ha
    have key := KR.at e r k
    rw [hv] at key
    cases hk : valueAt kv k with
    | none => rw [hk] at key; exact key.elim
    | some v =>
      rw [hk] at key
      exact tail_any (T := "dict") hd.typeIs slot_dict_getitem.lookup (wpAny_getItem_of (intKind_is prog w k t) hd.mapOf hk ⟨V, σ₂, key, S₂.toks _, (g₁.trans g₂).trans (Go.toks _ _ _), q⟩) (hs _ _))

theorem NT_dict {o : Obj} {es ep} (h : o.data = .dict es ep) : NT o := fun ⟨_, _, _, e⟩ => by rw [h] at e; cases e
theorem setI {a : Addr} {kvs : List (Int × V)} {k : Int} {t : Tok} {v : Value} {V : V} {s : Shared} {P : Unit → Shared → Prop} {E : Value → Shared → Prop} (S : Sim prog c ρ σ s) (ha : σ a = some (.dictI kvs)) (hz : kvs.length ≤ 1000000) (rv : VR s.heap v V)
    (q : ∀ s', Sim prog c ρ (upd σ a (.dictI (kset kvs k V))) s' → Go c.L σ s (upd σ a (.dictI (kset kvs k V))) s' → P () s') : wpAny (model prog w) c.A (setItem (.ref a) (.int k t) v) P E s := by
  obtain ⟨_, _, z, kv, hd, e, r⟩ := S.obj _ _ ha
  refine wpAny_setItem_pairs (intKind_is prog w k t) hd (fun h' hd' hs' => ?_) (by rw [KR.len e]; exact Nat.le_trans hz (by decide))
  obtain ⟨o, es, ep, ho, _, hdd, _⟩ := hd
  have tk : TK s.heap h' := tk_of_same hs' ho (NT_dict hdd)
  obtain ⟨p1, p2⟩ := KR.put (k := k) (rv.mono tk) e (r.mono tk)
  exact q _ (S.change ha hs' (.dictI (kset kvs k V)) _ ⟨z, _, hd', p1, p2⟩) (Go.change S ha hs' _ _)
theorem setS {a : Addr} {kvs : List (Str × V)} {k : Str} {t : Tok} {v : Value} {V : V} {s : Shared} {P : Unit → Shared → Prop} {E : Value → Shared → Prop} (S : Sim prog c ρ σ s) (ha : σ a = some (.dictS kvs)) (hz : kvs.length ≤ 1000000) (rv : VR s.heap v V)
    (q : ∀ s', Sim prog c ρ (upd σ a (.dictS (kset kvs k V))) s' → Go c.L σ s (upd σ a (.dictS (kset kvs k V))) s' → P () s') : wpAny (model prog w) c.A (setItem (.ref a) (.str k t) v) P E s := by
  obtain ⟨_, _, z, kv, hd, e, r⟩ := S.obj _ _ ha
  refine wpAny_setItem_pairs (strKind_is prog w k t) hd (fun h' hd' hs' => ?_) (by rw [KR.len e]; exact Nat.le_trans hz (by decide))
  obtain ⟨o, es, ep, ho, _, hdd, _⟩ := hd
  have tk : TK s.heap h' := tk_of_same hs' ho (NT_dict hdd)
  obtain ⟨p1, p2⟩ := KR.put (k := k) (rv.mono tk) e (r.mono tk)
  exact q _ (S.change ha hs' (.dictS (kset kvs k V)) _ ⟨z, _, hd', p1, p2⟩) (Go.change S ha hs' _ _)
theorem tupKey {h : Heap} {ks : List Int} {v : Value} (r : VR h v (.tup (ks.map V.int))) : ∃ a, v = .ref a ∧ IsTupleKey (intKind prog w) h ks a := by
  cases r with
  | @tup a items _ ht hv =>
    obtain ⟨o, ho, hc, n, hd⟩ := ht
    refine ⟨a, rfl, o, items, n, ho, hc, hd, ?_⟩
    generalize items.toList = l at hv
    clear ho hc hd
    induction ks generalizing l with
    | nil => cases hv; exact .nil
    | cons k ks ih => cases hv with | cons ra rb => cases ra with | int _ t => exact .cons (intKind_is prog w k t) (ih _ rb)
theorem setT {a : Addr} {kvs : List (List Int × V)} {k : List Int} {kv : Value} {v : Value} {x : RH.V} {s : Shared} {P : Unit → Shared → Prop} {E : Value → Shared → Prop} (hu : c.A.units + 1 < cLine) (S : Sim prog c ρ σ s) (ha : σ a = some (.dictT kvs)) (hz : kvs.length ≤ 1000000)
    (rk : VR s.heap kv (.tup (k.map V.int))) (rv : VR s.heap v x)
    (q : ∀ s', Sim prog c ρ (upd σ a (.dictT (kset kvs k x))) s' → Go c.L σ s (upd σ a (.dictT (kset kvs k x))) s' → P () s') : wpAny (model prog w) c.A (setItem (.ref a) kv v) P E s := by
  obtain ⟨_, _, z, xs, hd, e, r⟩ := S.obj _ _ ha
  obtain ⟨ka, rfl, hk⟩ := tupKey (prog := prog) (w := w) rk
  have e' : (xs.map fun p => (p.1, p.2.2)).map (·.1) = kvs.map (·.1) := by rw [List.map_map]; exact e
  have r' : VRs s.heap ((xs.map fun p => (p.1, p.2.2)).map (·.2)) (kvs.map (·.2)) := by rw [List.map_map]; exact r
  refine wpAny_setItem_heap (knd := tupleKind (intKind prog w)) (tupleKind_room_in1 hu) hk hd (fun h' hd' hs' => ?_) (by have := KR.len e'; rw [List.length_map] at this; rw [this]; exact Nat.le_trans hz (by decide))
  obtain ⟨o, es, ep, ho, _, hdd, _⟩ := hd
  have tk : TK s.heap h' := tk_of_same hs' ho (NT_dict hdd)
  obtain ⟨p1, p2⟩ := KR.put (k := k) (rv.mono tk) e' (r'.mono tk)
  rw [← KRH.put _ _ ka, List.map_map] at p1 p2
  exact q _ (S.change ha hs' (.dictT (kset kvs k x)) _ ⟨z, _, hd', p1, p2⟩) (Go.change S ha hs' _ _)

/-- o[i] = value -/
inductive SetOk (c : Cx w K) (σ : St) : V → V → V → Addr → AO → Prop
  | i {a : Addr} {kvs : List (Int × V)} {k : Int} {x : V} : σ a = some (.dictI kvs) → kvs.length ≤ 1000000 → SetOk c σ (.loc a) (.int k) x a (.dictI (kset kvs k x))
  | s {a : Addr} {kvs : List (Str × V)} {k : Str} {x : V} : σ a = some (.dictS kvs) → kvs.length ≤ 1000000 → SetOk c σ (.loc a) (.str k) x a (.dictS (kset kvs k x))
  | t {a : Addr} {kvs : List (List Int × V)} {k : List Int} {x : V} : c.A.units + 1 < cLine → σ a = some (.dictT kvs) → kvs.length ≤ 1000000 → SetOk c σ (.loc a) (.tup (k.map V.int)) x a (.dictT (kset kvs k x))
theorem EX_Set {o i value : PySem.Expr} {pos' pos : Pos} {Q : Fl → Loc → St → Prop} (hs : swapsWith value (some (.Subscript o i pos')) pos.line env = pure false)
    (h : EV prog c (eval value env) ρ σ fun x σ₁ => EV prog c (eval o env) ρ σ₁ fun X σ₂ => EV prog c (eval i env) ρ σ₂ fun I σ₃ => ∃ a ao, SetOk c σ₃ X I x a ao ∧ Q .next ρ (upd σ₃ a ao)) :
    EX prog c (exec (.Assign [.Subscript o i pos'] value pos) env) ρ σ Q := fun s S =>
  wpAny_Assign_Subscript (h.run S fun v s₁ x σ₁ rv S₁ g₁ h₁ => h₁.run S₁ fun ov s₂ X σ₂ rX S₂ g₂ h₂ => h₂.run S₂ fun iv s₃ I σ₃ rI S₃ g₃ ⟨a, ao, hk, q⟩ => by
    replace rv := (rv.mono g₂.tk).mono g₃.tk
    replace rX := rX.mono g₃.tk
    cases hk with
    | i ha hz => cases rX; cases rI; exact setI S₃ ha hz rv fun s' S' g' => ⟨.next, ρ, _, trivial, S', ((g₁.trans g₂).trans g₃).trans g', q⟩
    | s ha hz => cases rX; cases rI; exact setS S₃ ha hz rv fun s' S' g' => ⟨.next, ρ, _, trivial, S', ((g₁.trans g₂).trans g₃).trans g', q⟩
    | t hu ha hz => cases rX; exact setT hu S₃ ha hz rI rv fun s' S' g' => ⟨.next, ρ, _, trivial, S', ((g₁.trans g₂).trans g₃).trans g', q⟩) hs

theorem OP_getS {a : Addr} {kvs : List (Str × V)} {k : Str} {x : V} (ha : σ a = some (.dictS kvs)) (h : Q ((kget kvs k).getD x) σ) : OPn prog c (fun vs => call (.builtin "dict.get") vs) [.loc a, .str k, x] ρ σ Q := fun s us S rs => by
  cases rs with | cons r rs => cases rs with | cons r₂ rs => cases rs with | cons r₃ rs =>
  cases rs; cases r; cases r₂ with | str _ t =>
  obtain ⟨_, _, z, kv, hd, e, r⟩ := S.obj _ _ ha
  have key := KR.at e r k
  refine call_meetsIn F.slot_dict_get hd.typeIs F.entry_dict_get (F.args_dict_get_3 _ _ _) (meets_dict_get_default _ _ (strKind_is prog w k t) z _) ⟨_, hd.mapOf, ?_⟩
  refine ⟨_, σ, ?_, S.toks _, Go.toks _ _ _, h⟩
  revert key
  cases valueAt kv k <;> cases kget kvs k <;> intro key
  · exact r₃
  · exact key.elim
  · exact key.elim
  · exact key
theorem OP_getT {a : Addr} {kvs : List (List Int × V)} {k : List Int} {x : V} (hu : c.A.units + 1 < cLine) (ha : σ a = some (.dictT kvs)) (h : Q ((kget kvs k).getD x) σ) : OPn prog c (fun vs => call (.builtin "dict.get") vs) [.loc a, .tup (k.map V.int), x] ρ σ Q := fun s us S rs => by
  cases rs with | cons r rs => cases rs with | cons r₂ rs => cases rs with | cons r₃ rs =>
  cases rs; cases r
  obtain ⟨ka, rfl, hk⟩ := tupKey (prog := prog) (w := w) r₂
  obtain ⟨_, _, z, xs, hd, e, r⟩ := S.obj _ _ ha
  have e' : (xs.map fun p => (p.1, p.2.2)).map (·.1) = kvs.map (·.1) := by rw [List.map_map]; exact e
  have r' : VRs s.heap ((xs.map fun p => (p.1, p.2.2)).map (·.2)) (kvs.map (·.2)) := by rw [List.map_map]; exact r
  have key := KR.at e' r' k
  rw [← KRH.at] at key
  refine call_meetsIn F.slot_dict_get hd.typeIs F.entry_dict_get (F.args_dict_get_3 _ _ _) (meetsH_dict_get_default (tupleKind (intKind prog w)) _ _ z _) ⟨tupleKind_room_in1 hu, k, xs, hk, hd, ?_⟩
  refine ⟨_, σ, ?_, S.toks _, Go.toks _ _ _, h⟩
  revert key
  cases (atKey xs k).map (·.2) <;> cases kget kvs k <;> intro key
  · exact r₃
  · exact key.elim
  · exact key.elim
  · exact key
end
end RH
set_option Elab.async false
set_option maxRecDepth 10000
set_option linter.all false
namespace RH
open PySem PySem.W PySem.Calls PyProof.Rows PySem.SeqAt

section
variable {prog : Program} {w : World} {K : Frag} {c : Cx w K} {ρ : Loc} {σ : St} {env : Env} {Q : V → St → Prop}

/-! new tables -/
theorem Sim.notMods {s : Shared} (S : Sim prog c ρ σ s) : (s.heap.objs.size == sysModules) = false := by
  obtain ⟨m, F⟩ := S.fr
  obtain ⟨o, es, ep, ho, _⟩ := c.T.g
  have h : 3 < s.heap.objs.size := Heap.lt_size (F.keep _ _ ho)
  rw [beq_eq_false_iff_ne]
  intro e
  have e' : s.heap.objs.size = 1 := e
  omega
theorem EV_DictI {pos : Pos} (h : ∀ a, σ a = none → Q (.loc a) (upd σ a (.dictI []))) : EV prog c (eval (.Dict [] [] pos) env) ρ σ Q := fun s S =>
  wpAny_Dict_empty ⟨_, _, .loc _, S.pushO _ (.dictI []) s.toks ⟨S.notMods, [], Heap.DictOf.new _, rfl, .nil⟩, Go.pushO S _ _ _, h _ S.freshAt⟩
theorem EV_DictS {pos : Pos} (h : ∀ a, σ a = none → Q (.loc a) (upd σ a (.dictS []))) : EV prog c (eval (.Dict [] [] pos) env) ρ σ Q := fun s S =>
  wpAny_Dict_empty ⟨_, _, .loc _, S.pushO _ (.dictS []) s.toks ⟨S.notMods, [], Heap.DictOf.new _, rfl, .nil⟩, Go.pushO S _ _ _, h _ S.freshAt⟩
theorem EV_DictT {pos : Pos} (h : ∀ a, σ a = none → Q (.loc a) (upd σ a (.dictT []))) : EV prog c (eval (.Dict [] [] pos) env) ρ σ Q := fun s S =>
  wpAny_Dict_empty ⟨_, _, .loc _, S.pushO _ (.dictT []) s.toks ⟨S.notMods, [], Heap.DictOfH.new _, rfl, .nil⟩, Go.pushO S _ _ _, h _ S.freshAt⟩

/-! lists from lists -/
theorem Sim.made {s : Shared} (S : Sim prog c ρ σ s) {h' : Heap} (tk : Nat) {ao : AO} (k : ∀ b o, s.heap.get? b = some o → h'.get? b = some o) (r : TK s.heap h' → OR prog w h' s.heap.objs.size ao) :
    Sim prog c ρ (upd σ s.heap.objs.size ao) { s with heap := h', toks := tk } ∧ Go c.L σ s (upd σ s.heap.objs.size ao) { s with heap := h', toks := tk } := by
  have S1 := S.ext tk k
  have t := tk_of_ext k
  have fr := S.freshAt
  have nl : ∀ {x : Obj}, ¬ s.heap.get? s.heap.objs.size = some x := fun e => absurd (Heap.lt_size e) (Nat.lt_irrefl _)
  refine ⟨⟨S1.loc, fun a o e => ?_⟩, ⟨⟨_, _, rfl⟩, fun b o _ _ e => k b o e, t, fun b h0 h1 => ?_⟩⟩
  · unfold upd at e
    split at e
    · rename_i z
      cases e; subst z
      exact ⟨S.sizeNe, S.size₀, r t⟩
    · exact S1.obj a o e
  · unfold upd at h1
    split at h1
    · rename_i z
      subst z
      refine ⟨S.sizeNe, ?_⟩
      cases q : s.heap.get? s.heap.objs.size with
      | none => rfl
      | some x => exact absurd q nl
    · exact absurd h0 h1
theorem OP_list_list {a : Addr} {vs : List V} (ha : σ a = some (.list vs)) (hz : vs.length ≤ 1000000) (h : ∀ d, σ d = none → Q (.loc d) (upd σ d (.list vs))) : OPn prog c (fun vs => call (.type "list") vs) [.loc a] ρ σ Q := fun s us S rs => by
  cases rs with | cons r rs =>
  cases rs; cases r
  obtain ⟨_, _, items, ⟨n, hn⟩, hv⟩ := S.obj _ _ ha
  refine call_list_seq a (.inl rfl) hn rfl rfl (fun h' c' k hnew => ?_) (by rw [len_items hv]; exact Nat.le_trans hz (by decide))
  obtain ⟨S', g'⟩ := S.made s.toks (ao := .list vs) k fun t => ⟨items, ⟨c', hnew⟩, hv.mono t⟩
  exact ⟨_, _, .loc _, S', g', h _ S.freshAt⟩
theorem OP_list_tup {vs : List V} (hz : vs.length ≤ 1000000) (h : ∀ d, σ d = none → Q (.loc d) (upd σ d (.list vs))) : OPn prog c (fun vs => call (.type "list") vs) [.tup vs] ρ σ Q := fun s us S rs => by
  cases rs with | cons r rs =>
  cases rs; cases r with | @tup a items _ ht hv =>
  obtain ⟨o, hn, hc, n, hd⟩ := id ht
  refine call_list_seq a (.inr rfl) hn hc hd (fun h' c' k hnew => ?_) (by rw [len_items hv]; exact Nat.le_trans hz (by decide))
  obtain ⟨S', g'⟩ := S.made s.toks (ao := .list vs) k fun t => ⟨items, ⟨c', hnew⟩, hv.mono t⟩
  exact ⟨_, _, .loc _, S', g', h _ S.freshAt⟩
theorem OP_addL {a b : Addr} {xs ys : List V} (ha : σ a = some (.list xs)) (hb : σ b = some (.list ys)) (hz : xs.length + ys.length ≤ 1000000) (h : ∀ d, σ d = none → Q (.loc d) (upd σ d (.list (xs ++ ys)))) :
    OP2 prog c (binaryOp .Add) (.loc a) (.loc b) ρ σ Q := fun s v u S r₁ r₂ => by
  cases r₁; cases r₂
  obtain ⟨_, _, i1, ⟨n1, p1⟩, v1⟩ := S.obj _ _ ha
  obtain ⟨_, _, i2, ⟨n2, p2⟩, v2⟩ := S.obj _ _ hb
  refine concat_meets ⟨_, p1, rfl⟩ ⟨_, p2, rfl⟩ noFill_list_add seq_list_add PySem.F.slot_list_add PySem.F.entry_list_add (PySem.F.args_list_add_2 _ _) (list_addW a b i1 i2 n1 n2 none none #[] #[] (by rw [len_items v1, len_items v2]; exact Nat.le_trans hz (by decide))) ⟨p1, p2, ?_⟩
  exact ⟨_, _, .loc _, S.pushO _ (.list (xs ++ ys)) s.toks ⟨i1 ++ i2, ⟨0, Heap.get?_push_size _ rfl⟩, by simpa using (v1.append v2).mono (TK.push _ _)⟩, Go.pushO S _ _ _, h _ S.freshAt⟩
theorem EV_Upto {value e : PySem.Expr} {p pos : Pos} (ht : ∀ o r, letTemporaryGo value o r = pure ())
    (h : EV prog c (eval value env) ρ σ fun X σ₁ => EV prog c (eval e env) ρ σ₁ fun I σ₂ => ∃ a vs k, X = .loc a ∧ σ₂ a = some (.list vs) ∧ vs.length ≤ 1000000 ∧ I = .int k ∧ 0 ≤ k ∧ ∀ d, σ₂ d = none → Q (.loc d) (upd σ₂ d (.list (vs.take k.toNat)))) :
    EV prog c (eval (.Subscript value (.Slice none (some e) none p) pos) env) ρ σ Q := fun s S => by
  refine wpAny_Subscript_list_slice (h.run S fun o s₁ X σ₁ rX S₁ g₁ h₁ => ?_) ht
  rw [evalPart_none, evalPart_some]
  refine wpAny_pure (h₁.run S₁ fun i s₂ I σ₂ rI S₂ g₂ ⟨a, vs, k, ex, ha, hz, ek, hk, q⟩ => ?_)
  subst ex; subst ek
  cases rX; cases rI with | int _ t =>
  obtain ⟨_, _, items, pl, hv⟩ := S₂.obj _ _ ha
  refine ⟨a, items, _, _, rfl, pl.isList, by rw [len_items hv]; exact Nat.le_trans hz (by decide), .none, .int k t, ?_⟩
  have e : sliceBounds none (some k) none items.size = (((0 : Nat) : Int), ((min k.toNat items.size : Nat) : Int), 1) := by
    simp only [sliceBounds, Option.getD_none, show (1 : Int) > 0 by decide, if_true, if_neg (show ¬ (k < 0) by omega)]
    congr 1
    congr 1
    omega
  rw [kmk_pick_nat _ e]
  have et : ((items.toList.drop 0).take (min k.toNat items.size - 0)) = items.toList.take k.toNat := by
    rw [List.drop_zero, Nat.sub_zero]
    conv => lhs; rw [← Array.length_toList]
    exact kmk_take_min _ _
  rw [et]
  have S3 := S₂.pushT { cls := .type "slice", data := .fields #[.none, .int k t, .none] } s₂.toks
  have hsz : (s₂.heap.push { cls := .type "slice", data := .fields #[.none, .int k t, .none] }).objs.size = s₂.heap.objs.size + 1 := by simp [Heap.push]
  have S4 := S3.pushO { cls := .type "list", data := .seq (items.toList.take k.toNat).toArray } (.list (vs.take k.toNat)) s₂.toks ⟨(items.toList.take k.toNat).toArray, ⟨0, Heap.get?_push_size _ rfl⟩, by simpa using ((hv.take k.toNat).mono (TK.push _ _)).mono (TK.push _ _)⟩
  have g4 := Go.pushO S3 { cls := .type "list", data := .seq (items.toList.take k.toNat).toArray } (.list (vs.take k.toNat)) s₂.toks
  have fr := S3.freshAt
  simp only at S4 g4 fr
  rw [hsz] at S4 g4 fr
  exact ⟨_, _, .loc _, S4, ((g₁.trans g₂).trans (Go.pushT _ _ _ _)).trans g4, q _ fr⟩

/-! data -/
mutual
inductive VD (σ : St) : V → PyData → Prop
  | none : VD σ .none .none
  | bool (b : Bool) : VD σ (.bool b) (.bool b)
  | int (i : Int) : VD σ (.int i) (.int i)
  | str (x : Str) : VD σ (.str x) (.str x)
  | tup {vs : List V} {ds : List PyData} : VDs σ vs ds → VD σ (.tup vs) (.tuple ds)
  | loc {a : Addr} {vs : List V} {ds : List PyData} : σ a = some (.list vs) → VDs σ vs ds → VD σ (.loc a) (.list ds)
inductive VDs (σ : St) : List V → List PyData → Prop
  | nil : VDs σ [] []
  | cons {v : V} {d : PyData} {vs : List V} {ds : List PyData} : VD σ v d → VDs σ vs ds → VDs σ (v :: vs) (d :: ds)
end
mutual
theorem VD.reads {s : Shared} (S : Sim prog c ρ σ s) {x : V} {d : PyData} (r : VD σ x d) {v : Value} (rv : VR s.heap v x) : ∃ as, Reads s.heap v d as := by
  cases r with
  | none => cases rv; exact ⟨_, .none⟩
  | bool b => cases rv; exact ⟨_, .bool b⟩
  | int i => cases rv; exact ⟨_, .int _ _⟩
  | str i => cases rv; exact ⟨_, .str _ _⟩
  | tup rs =>
    cases rv with
    | tup ht hv =>
      obtain ⟨o, ho, hc, n, hd⟩ := ht
      obtain ⟨as, h⟩ := VDs.reads S rs hv
      exact ⟨_, .tuple ho hc hd h⟩
  | loc hl rs =>
    cases rv
    obtain ⟨_, _, items, ⟨n, hn⟩, hv⟩ := S.obj _ _ hl
    obtain ⟨as, h⟩ := VDs.reads S rs hv
    exact ⟨_, .list hn rfl rfl h⟩
theorem VDs.reads {s : Shared} (S : Sim prog c ρ σ s) {x : List V} {d : List PyData} (r : VDs σ x d) {v : List Value} (rv : VRs s.heap v x) : ∃ as, ReadsAll s.heap v d as := by
  cases r with
  | nil => cases rv; exact ⟨_, .nil⟩
  | cons a b =>
    cases rv with
    | cons c d =>
      obtain ⟨_, h1⟩ := VD.reads S a c
      obtain ⟨_, h2⟩ := VDs.reads S b d
      exact ⟨_, .cons h1 h2⟩
end
/-- comparable -/
def okD (d : PyData) : Bool := d.canLay0 && decide (d.depth ≤ 1000)
theorem okD.lay {d : PyData} (h : okD d = true) : d.canLay0 = true := (Bool.and_eq_true_iff.mp h).1
theorem okD.dep {d : PyData} (h : okD d = true) : d.depth ≤ 1000 := by simpa using (Bool.and_eq_true_iff.mp h).2
theorem Cx.roomy (c : Cx w K) (hd : 100 ≤ c.d) : c.A.units + 1002 < cLine := by
  have := c.un
  have h : cLine = 9900 := rfl
  rw [h]; omega
theorem OP_eqD {x y : V} {dx dy : PyData} (hd : 100 ≤ c.d) (rx : VD σ x dx) (ry : VD σ y dy) (hx : okD dx = true) (hy : okD dy = true) (h : Q (.bool (PyData.eqv dx dy)) σ) : OP2 prog c (compareOp .Eq) x y ρ σ Q := fun s v u S r₁ r₂ => by
  obtain ⟨as, ra⟩ := rx.reads S r₁
  obtain ⟨bs, rb⟩ := ry.reads S r₂
  have := c.roomy hd
  exact compareEq_reads ra rb (okD.lay hx) (okD.lay hy) (by have := okD.dep hx; omega) ⟨_, σ, .bool _, S, Go.refl _ _ _, h⟩
theorem OP_neD {x y : V} {dx dy : PyData} (hd : 100 ≤ c.d) (rx : VD σ x dx) (ry : VD σ y dy) (hx : okD dx = true) (hy : okD dy = true) (h : Q (.bool (!PyData.eqv dx dy)) σ) : OP2 prog c (compareOp .NotEq) x y ρ σ Q := fun s v u S r₁ r₂ => by
  obtain ⟨as, ra⟩ := rx.reads S r₁
  obtain ⟨bs, rb⟩ := ry.reads S r₂
  have := c.roomy hd
  exact compareNe_reads ra rb (okD.lay hx) (okD.lay hy) (by have := okD.dep hx; omega) ⟨_, σ, .bool _, S, Go.refl _ _ _, h⟩
theorem OP_inD {x : V} {a : Addr} {ys : List V} {dx : PyData} {dys : List PyData} (hd : 100 ≤ c.d) (rx : VD σ x dx) (ha : σ a = some (.list ys)) (ry : VDs σ ys dys) (hx : okD dx = true) (hy : PyData.canLayAll0 dys = true) (h : Q (.bool (dys.any fun y => PyData.eqv y dx)) σ) :
    OP2 prog c (compareOp .In) x (.loc a) ρ σ Q := fun s v u S r₁ r₂ => by
  obtain ⟨as, ra⟩ := rx.reads S r₁
  obtain ⟨bs, rb⟩ := (VD.loc ha ry).reads S r₂
  have := c.roomy hd
  exact in_list_reads rb ra hy (okD.lay hx) (by have := okD.dep hx; omega) ⟨_, σ, .bool _, S, Go.refl _ _ _, h⟩
theorem OP_notInD {x : V} {a : Addr} {ys : List V} {dx : PyData} {dys : List PyData} (hd : 100 ≤ c.d) (rx : VD σ x dx) (ha : σ a = some (.list ys)) (ry : VDs σ ys dys) (hx : okD dx = true) (hy : PyData.canLayAll0 dys = true) (h : Q (.bool (!dys.any fun y => PyData.eqv y dx)) σ) :
    OP2 prog c (compareOp .NotIn) x (.loc a) ρ σ Q := fun s v u S r₁ r₂ => by
  obtain ⟨as, ra⟩ := rx.reads S r₁
  obtain ⟨bs, rb⟩ := (VD.loc ha ry).reads S r₂
  have := c.roomy hd
  exact notIn_list_reads rb ra hy (okD.lay hx) (by have := okD.dep hx; omega) ⟨_, σ, .bool _, S, Go.refl _ _ _, h⟩
theorem OP_inT {x : V} {ys : List V} {dx : PyData} {dys : List PyData} (hd : 100 ≤ c.d) (rx : VD σ x dx) (ry : VDs σ ys dys) (hx : okD dx = true) (hy : PyData.canLayAll0 dys = true) (h : Q (.bool (dys.any fun y => PyData.eqv y dx)) σ) :
    OP2 prog c (compareOp .In) x (.tup ys) ρ σ Q := fun s v u S r₁ r₂ => by
  obtain ⟨as, ra⟩ := rx.reads S r₁
  obtain ⟨bs, rb⟩ := (VD.tup ry).reads S r₂
  have := c.roomy hd
  exact in_tuple_reads rb ra hy (okD.lay hx) (by have := okD.dep hx; omega) ⟨_, σ, .bool _, S, Go.refl _ _ _, h⟩
theorem OP_isNone {x : V} (hx : x ≠ .none) (h : Q (.bool false) σ) : OP2 prog c (compareOp .Is) x .none ρ σ Q := fun s v u S r₁ r₂ => by
  cases r₂
  refine wpAny_is_other ?_ ?_ ⟨_, σ, .bool _, S, Go.refl _ _ _, h⟩
  · cases r₁ <;> rfl
  · cases r₁ with
    | none => exact absurd rfl hx
    | _ => intro e; cases e
theorem OP_isNone0 (h : Q (.bool true) σ) : OP2 prog c (compareOp .Is) .none .none ρ σ Q := fun s v u S r₁ r₂ => by
  cases r₁; cases r₂
  exact wpAny_is_self rfl ⟨_, σ, .bool _, S, Go.refl _ _ _, h⟩

/-- the place of a value in a list -/
theorem OP_index {x : V} {a : Addr} {ys : List V} {dx : PyData} {dys : List PyData} {j : Nat} (hd : 100 ≤ c.d) (rx : VD σ x dx) (ha : σ a = some (.list ys)) (ry : VDs σ ys dys) (hx : okD dx = true) (hy : PyData.canLayAll0 dys = true) (hz : ys.length ≤ 1000000)
    (hj : ∃ d, dys[j]? = some d ∧ PyData.eqv d dx = true) (hno : ∀ i d, i < j → dys[i]? = some d → PyData.eqv d dx = false) (h : Q (.int j) σ) :
    OPn prog c (fun vs => call (.builtin "list.index") vs) [.loc a, x] ρ σ Q := fun s us S rs => by
  cases rs with | cons r rs => cases rs with | cons r₂ rs =>
  cases rs; cases r
  obtain ⟨as, ra⟩ := rx.reads S r₂
  obtain ⟨_, _, items, ⟨n, hn⟩, hv⟩ := S.obj _ _ ha
  obtain ⟨bs, rb⟩ := ry.reads S hv
  have hmap := readsAll_map dys items.toList bs hy rb
  have hu := c.roomy hd
  have hsz := len_items hv
  have hget : ∀ i (hi : i < items.size), dys[i]? = some (readOf s.heap items[i]) := fun i hi => by
    rw [← hmap, List.getElem?_map]
    simp [hi]
  obtain ⟨dj, hdj, hej⟩ := hj
  have hjlt : j < items.size := by
    have := (List.getElem?_eq_some_iff.mp hdj).1
    rw [← hmap] at this
    simpa using this
  refine call_meetsIn F.slot_list_index ⟨_, hn, rfl⟩ F.entry_list_index (F.args_list_index_2 _ _)
    (Meets.inModel (SeqAt.list_indexAt a items n none #[] _ (fun y => PyData.eqv (readOf s.heap y) dx) j hjlt (by omega) ?_ ?_) prog w) ⟨hn, items_eqAt rb ra hy (okD.lay hx) (by have := okD.dep hx; omega), ?_⟩
  · have := hget j hjlt
    rw [hdj] at this
    cases this; exact hej
  · exact fun m hm hmj => hno m _ hmj (hget m hm)
  · exact ⟨_, σ, .int _ _, S.toks _, Go.toks _ _ _, h⟩
end
end RH
set_option Elab.async false
set_option maxRecDepth 10000
set_option linter.all false
namespace RH
open PySem PySem.W PySem.Calls PyProof.Rows

/-! what is kept -/
def Keep (S : List Addr) (σ σ' : St) : Prop := ∀ b o, σ b = some o → b ∉ S → σ' b = some o
theorem Keep.refl (S : List Addr) (σ : St) : Keep S σ σ := fun _ _ e _ => e
theorem Keep.trans {S : List Addr} {σ σ' σ'' : St} (x : Keep S σ σ') (y : Keep S σ' σ'') : Keep S σ σ'' := fun b o e n => y b o (x b o e n) n
theorem Keep.wide {S S' : List Addr} {σ σ' : St} (x : Keep S σ σ') (h : ∀ a ∈ S, a ∈ S') : Keep S' σ σ' := fun b o e n => x b o e fun m => n (h b m)
theorem Keep.updIn {S : List Addr} {σ σ' : St} {a : Addr} (x : Keep S σ σ') (h : a ∈ S) (o : AO) : Keep S σ (upd σ' a o) := fun b ob e n => (upd_ne fun z => by subst z; exact n h).trans (x b ob e n)
theorem Keep.updNew {S : List Addr} {σ σ' : St} {a : Addr} (x : Keep S σ σ') (h : σ' a = none) (o : AO) : Keep S σ (upd σ' a o) := fun b ob e n => by
  have := x b ob e n
  exact (upd_ne fun z => by subst z; rw [h] at this; cases this).trans this
theorem Keep.drop {S : List Addr} {σ σ' : St} {a : Addr} (x : Keep (a :: S) σ σ') (h : σ a = none) : Keep S σ σ' := fun b ob e n => x b ob e fun m => by
  rcases List.mem_cons.mp m with z | m
  · subst z; rw [h] at e; cases e
  · exact n m
theorem Keep.none {S : List Addr} {σ σ' : St} {a : Addr} (x : Keep S σ σ') (h : σ' a = .none) (n : a ∉ S) : σ a = .none := by
  cases q : σ a with
  | none => rfl
  | some o => have := x a o q n; rw [h] at this; cases this
theorem neF {σ : St} {a b : Addr} {o : AO} (ha : σ a = some o) (hb : σ b = none) : a ≠ b := fun z => by subst z; rw [ha] at hb; cases hb
theorem neF' {σ : St} {a b : Addr} {o : AO} (ha : σ a = some o) (hb : σ b = none) : b ≠ a := fun z => by subst z; rw [ha] at hb; cases hb

theorem all0 {α : Type} {P : List α → Prop} (h : P []) : ∀ vs : List α, vs.length = 0 → P vs
  | [], _ => h
theorem all1 {α : Type} {P : List α → Prop} (h : ∀ a, P [a]) : ∀ vs : List α, vs.length = 1 → P vs
  | [a], _ => h a
theorem all2 {α : Type} {P : List α → Prop} (h : ∀ a b, P [a, b]) : ∀ vs : List α, vs.length = 2 → P vs
  | [a, b], _ => h a b
theorem all3 {α : Type} {P : List α → Prop} (h : ∀ a b c, P [a, b, c]) : ∀ vs : List α, vs.length = 3 → P vs
  | [a, b, c], _ => h a b c
theorem all4 {α : Type} {P : List α → Prop} (h : ∀ a b c d, P [a, b, c, d]) : ∀ vs : List α, vs.length = 4 → P vs
  | [a, b, c, d], _ => h a b c d
theorem all5 {α : Type} {P : List α → Prop} (h : ∀ a b c d e, P [a, b, c, d, e]) : ∀ vs : List α, vs.length = 5 → P vs
  | [a, b, c, d, e], _ => h a b c d e

section
variable {prog : Program} {w : World} {K : Frag} {c : Cx w K} {ρ : Loc} {σ : St} {env : Env} {Q : V → St → Prop}

theorem CF_K {names : List Str} {args : List V} {name qual : Str} {params : Arguments} {body : List Stmt} {scope : Scope} {dV kV doc pm cdv ct : Value} {an : Option Addr} {f : Addr} {fo : Obj} {d : Nat} (hl : K.lookup f = some fo) (hd : d + 1 = c.d)
    (hfd : fo.data = .func (fnX name qual params body scope [] dV kV doc pm an cdv ct)) (hcr : codeIn K cdv qual = true)
    (hbind : ∀ vs : List Value, vs.length = args.length → bindArgs (fnX name qual params body scope [] dV kV doc pm an cdv ct) ⟨vs, []⟩ = pure (names.zip vs))
    (hlen : names.length = args.length) (hnd : names.Nodup) (hloc : ∀ x ∈ names, scope.names.lookup x = some .local) (hcell : ∀ x ∈ scope.names, x.2 ≠ .cell)
    (hco : scope.isCoroutine = false) (hgen : scope.isGenerator = false) (hk : scope.kind = .function)
    (h : ∀ c' : Cx w K, c'.d = d → EnvOk c' (envX qual scope c'.L f cdv []) → EX prog c' (execs body (envX qual scope c'.L f cdv [])) (names.zip args) σ (fun fl _ σ' => Q (retV fl) σ')) :
    CF prog c f args ρ σ Q :=
  CF_fn hd (fun s S => ⟨⟨fo, S.inK f fo hl, hfd⟩, codeRec_of S.inK hcr⟩) (fun s vs S hv => BindsTo.of_eq (hbind vs hv)) hlen hnd hloc hcell hco hgen hk h

/-- a global function, called -/
theorem EV_fcall {x : Str} {np pos : Pos} {f : Addr} {e : PySem.Expr} {rest : List PySem.Expr} (he : EnvOk c env) (hk : env.kindOf x = some .globalImplicit) (hd : (x == ("__debug__" : Str)) = false) (hn : nsIn K mainGlobals x = some (some (.ref f)))
    (hc : eval (.Call (.Name x np) (e :: rest) [] pos) env = (do callWith pos (← eval (.Name x np) env) [] (backTo pos (starEach (e :: rest) env)) (backToKw pos (keywordEach [] env))))
    (hs : starEach (e :: rest) env = (false, eval e env) :: starEach rest env) (hplain : (backTo pos (starEach rest env)).any (·.1) = false) (hkp : keepIn K (.ref f) = true)
    (h : EVs prog c (spliced (backTo pos (starEach (e :: rest) env))) ρ σ fun xs σ₁ => CF prog c f xs ρ σ₁ Q) :
    EV prog c (eval (.Call (.Name x np) (e :: rest) [] pos) env) ρ σ Q :=
  EV_call hc hs hplain (EV_globRef he hk hd hn ⟨f, rfl, fun s S => h.run S fun vs s' xs σ' a b g q => ⟨xs, σ', a, b, g, .inl hkp, q⟩⟩)
theorem EV_fcall0 {x : Str} {np pos : Pos} {f : Addr} (he : EnvOk c env) (hk : env.kindOf x = some .globalImplicit) (hd : (x == ("__debug__" : Str)) = false) (hn : nsIn K mainGlobals x = some (some (.ref f)))
    (hc : eval (.Call (.Name x np) [] [] pos) env = (do callWith pos (← eval (.Name x np) env) [] (backTo pos (starEach [] env)) (backToKw pos (keywordEach [] env))))
    (hkp : keepIn K (.ref f) = true) (h : CF prog c f [] ρ σ Q) :
    EV prog c (eval (.Call (.Name x np) [] [] pos) env) ρ σ Q :=
  EV_call0 hc (EV_globRef he hk hd hn ⟨f, rfl, .inl hkp, h⟩)

theorem EV_pop {o : PySem.Expr} {apos pos : Pos} (hbase : attributeBase o "pop" env (eval o env) = eval o env) (hline : (apos.endLine == pos.line) = true)
    (h : EV prog c (eval o env) ρ σ fun X σ₁ => ∃ a ys y, X = .loc a ∧ σ₁ a = some (.list (ys ++ [y])) ∧ ys.length ≤ 1000000 ∧ Q y (upd σ₁ a (.list ys))) :
    EV prog c (eval (.Call (.Attribute o "pop" apos) [] [] pos) env) ρ σ Q :=
  EV_bmeth0 hbase hline F.plainAttrs_list F.slot_list_pop F.type_list_pop (fun s S => h.run S fun v s' X σ' r S' g ⟨a, ys, y, e, ha, hz, q⟩ => ⟨X, σ', r, S', g, a, e, isListT ha, OP_pop ha hz q⟩)
theorem EV_reverse {o : PySem.Expr} {apos pos : Pos} (hbase : attributeBase o "reverse" env (eval o env) = eval o env) (hline : (apos.endLine == pos.line) = true)
    (h : EV prog c (eval o env) ρ σ fun X σ₁ => ∃ a ys, X = .loc a ∧ σ₁ a = some (.list ys) ∧ ys.length ≤ 1000000 ∧ Q .none (upd σ₁ a (.list ys.reverse))) :
    EV prog c (eval (.Call (.Attribute o "reverse" apos) [] [] pos) env) ρ σ Q :=
  EV_bmeth0 hbase hline F.plainAttrs_list F.slot_list_reverse F.type_list_reverse (fun s S => h.run S fun v s' X σ' r S' g ⟨a, ys, e, ha, hz, q⟩ => ⟨X, σ', r, S', g, a, e, isListT ha, OP_reverse ha hz q⟩)
theorem EV_append {o e : PySem.Expr} {apos pos : Pos} (hbase : attributeBase o "append" env (eval o env) = eval o env) (hline : (apos.endLine == pos.line) = true)
    (hfew : ((backTo pos (starEach [e] env)).all (fun x => !x.1) && (backToKw pos (keywordEach [] env)).all (fun x => x.1.isSome) && decide ([e].length + ([] : List Keyword).length + (if ([] : List Keyword).isEmpty then 0 else 1) < 30)) = true)
    (hs : starEach [e] env = (false, eval e env) :: starEach [] env) (hplain : (backTo pos (starEach [] env)).any (·.1) = false)
    (h : EV prog c (eval o env) ρ σ fun X σ₁ => ∃ a, X = .loc a ∧ (∃ ys, σ₁ a = some (.list ys)) ∧ EV prog c (eval e env) ρ σ₁ fun y σ₂ => ∃ ys, σ₂ a = some (.list ys) ∧ ys.length ≤ 1000000 ∧ Q .none (upd σ₂ a (.list (ys ++ [y])))) :
    EV prog c (eval (.Call (.Attribute o "append" apos) [e] [] pos) env) ρ σ Q :=
  EV_bmeth hbase hfew hline F.plainAttrs_list F.slot_list_append F.type_list_append hs hplain (fun s S => h.run S fun v s' X σ' r S' g ⟨a, ex, ⟨ys, ha⟩, q⟩ => ⟨X, σ', r, S', g, a, ex, isListT ha,
    EVs_cons hs (fun s S => q.run S fun v s' y σ' r S' g ⟨ys, ha, hz, q⟩ => ⟨y, σ', r, S', g, EVs_nil (OP_append ha hz q)⟩)⟩)
theorem EV_index {o e : PySem.Expr} {apos pos : Pos} (hbase : attributeBase o "index" env (eval o env) = eval o env) (hline : (apos.endLine == pos.line) = true)
    (hfew : ((backTo pos (starEach [e] env)).all (fun x => !x.1) && (backToKw pos (keywordEach [] env)).all (fun x => x.1.isSome) && decide ([e].length + ([] : List Keyword).length + (if ([] : List Keyword).isEmpty then 0 else 1) < 30)) = true)
    (hs : starEach [e] env = (false, eval e env) :: starEach [] env) (hplain : (backTo pos (starEach [] env)).any (·.1) = false)
    (h : EV prog c (eval o env) ρ σ fun X σ₁ => ∃ a, X = .loc a ∧ (∃ ys, σ₁ a = some (.list ys)) ∧ EV prog c (eval e env) ρ σ₁ fun y σ₂ => OPn prog c (fun vs => call (.builtin "list.index") vs) [.loc a, y] ρ σ₂ Q) :
    EV prog c (eval (.Call (.Attribute o "index" apos) [e] [] pos) env) ρ σ Q :=
  EV_bmeth hbase hfew hline F.plainAttrs_list F.slot_list_index F.type_list_index hs hplain (fun s S => h.run S fun v s' X σ' r S' g ⟨a, ex, ⟨ys, ha⟩, q⟩ => ⟨X, σ', r, S', g, a, ex, isListT ha,
    EVs_cons hs (fun s S => q.run S fun v s' y σ' r S' g q => ⟨y, σ', r, S', g, EVs_nil q⟩)⟩)
theorem anyDict {a : Addr} (ha : (∃ ys, σ a = some (.dictI ys)) ∨ (∃ ys, σ a = some (.dictS ys)) ∨ (∃ ys, σ a = some (.dictT ys))) : ∀ s, Sim prog c ρ σ s → s.TypeIs (.ref a) "dict" ∧ ∃ ob, s.heap.get? a = some ob ∧ ob.dict = none :=
  ha.elim (fun ⟨_, h⟩ => isDictI h) fun ha => ha.elim (fun ⟨_, h⟩ => isDictS h) fun ⟨_, h⟩ => isDictT h
theorem EV_get {o e e' : PySem.Expr} {apos pos : Pos} (hbase : attributeBase o "get" env (eval o env) = eval o env) (hline : (apos.endLine == pos.line) = true)
    (hfew : ((backTo pos (starEach [e, e'] env)).all (fun x => !x.1) && (backToKw pos (keywordEach [] env)).all (fun x => x.1.isSome) && decide ([e, e'].length + ([] : List Keyword).length + (if ([] : List Keyword).isEmpty then 0 else 1) < 30)) = true)
    (hs : starEach [e, e'] env = (false, eval e env) :: starEach [e'] env) (hs' : starEach [e'] env = (false, eval e' env) :: starEach [] env) (hplain : (backTo pos (starEach [e'] env)).any (·.1) = false)
    (h : EV prog c (eval o env) ρ σ fun X σ₁ => ∃ a, X = .loc a ∧ ((∃ ys, σ₁ a = some (.dictI ys)) ∨ (∃ ys, σ₁ a = some (.dictS ys)) ∨ (∃ ys, σ₁ a = some (.dictT ys))) ∧
      EV prog c (eval e env) ρ σ₁ fun y σ₂ => EV prog c (eval e' env) ρ σ₂ fun y' σ₃ => OPn prog c (fun vs => call (.builtin "dict.get") vs) [.loc a, y, y'] ρ σ₃ Q) :
    EV prog c (eval (.Call (.Attribute o "get" apos) [e, e'] [] pos) env) ρ σ Q :=
  EV_bmeth hbase hfew hline F.plainAttrs_dict F.slot_dict_get F.type_dict_get hs hplain (fun s S => h.run S fun v s' X σ' r S' g ⟨a, ex, ha, q⟩ => ⟨X, σ', r, S', g, a, ex, anyDict ha,
    EVs_cons hs (fun s S => q.run S fun v s' y σ' r S' g q => ⟨y, σ', r, S', g, EVs_cons hs' (fun s S => q.run S fun v s' y σ' r S' g q => ⟨y, σ', r, S', g, EVs_nil q⟩)⟩)⟩)
end
end RH
namespace RH
open PySem PySem.W PySem.Calls PyProof.Rows
/-! names kept -/
def Sub (ρ₀ ρ : Loc) : Prop := ∀ x V, lget ρ₀ x = some V → lget ρ x = some V
theorem Sub.refl (ρ : Loc) : Sub ρ ρ := fun _ _ e => e
theorem Sub.trans {a b c : Loc} (x : Sub a b) (y : Sub b c) : Sub a c := fun n v e => y n v (x n v e)
theorem Sub.nil {ρ : Loc} : Sub [] ρ := fun _ _ e => by cases e
theorem Sub.cons {ρ₀ ρ : Loc} {x : Str} {v : V} (h : lget ρ x = some v) (r : Sub ρ₀ ρ) : Sub ((x, v) :: ρ₀) ρ := fun y V e => by
  unfold lget at e
  split at e
  · rename_i z; cases e; exact z ▸ h
  · exact r y V e
theorem Sub.miss {ρ₀ ρ : Loc} {x : Str} {v : V} (r : Sub ρ₀ ρ) (h : lget ρ₀ x = none) : Sub ρ₀ (lset ρ x v) := fun y V e => by
  rw [lget_lset]
  by_cases z : y = x
  · subst z; rw [h] at e; cases e
  · rw [if_neg z]; exact r y V e
theorem Sub.both {ρ₀ ρ : Loc} {x : Str} {v : V} (r : Sub ρ₀ ρ) : Sub (lset ρ₀ x v) (lset ρ x v) := fun y V e => by
  rw [lget_lset] at e ⊢
  by_cases z : y = x
  · rw [if_pos z] at e ⊢; exact e
  · rw [if_neg z] at e ⊢; exact r y V e

section
variable {prog : Program} {w : World} {K : Frag} {c : Cx w K} {ρ : Loc} {σ : St} {env : Env} {Q : Fl → Loc → St → Prop}
theorem loopX.mono {P P' : Loc → St → Prop} (k : ∀ ρ σ, P ρ σ → P' ρ σ) : ∀ f ρ' σ', loopX P Q f ρ' σ' → loopX P' Q f ρ' σ'
  | .next, _, _, h => k _ _ h
  | .cont, _, _, h => k _ _ h
  | .brk, _, _, h => h
  | .ret _, _, _, h => h
theorem FB_ind {x : Str} {body : List Stmt} {ok : St → Prop} (inv : List V → Loc → St → Prop)
    (step : ∀ v vs ρ σ, inv (v :: vs) ρ σ → EX prog c (execs body env) (lset ρ x v) σ (loopX (fun ρ' σ' => ok σ' ∧ inv vs ρ' σ') Q))
    (done : ∀ ρ σ, inv [] ρ σ → Q .next ρ σ) : ∀ {xs : List V} {ρ : Loc} {σ : St}, inv xs ρ σ → FB prog c x body env ok xs ρ σ Q
  | [], ρ, σ, h => done ρ σ h
  | v :: vs, ρ, σ, h => (step v vs ρ σ h).mono (loopX.mono fun ρ' σ' ⟨h1, h2⟩ => ⟨h1, FB_ind inv step done h2⟩)
theorem FB.mono {x : Str} {body : List Stmt} {ok : St → Prop} {Q' : Fl → Loc → St → Prop} (k : ∀ f ρ σ, Q f ρ σ → Q' f ρ σ) : ∀ {xs : List V} {ρ : Loc} {σ : St}, FB prog c x body env ok xs ρ σ Q → FB prog c x body env ok xs ρ σ Q'
  | [], ρ, σ, h => k _ _ _ h
  | v :: vs, ρ, σ, h => EX.mono h fun f ρ' σ' => match f with
    | .next => fun ⟨h1, h2⟩ => ⟨h1, FB.mono k h2⟩
    | .cont => fun ⟨h1, h2⟩ => ⟨h1, FB.mono k h2⟩
    | .brk => fun h => k _ _ _ h
    | .ret _ => fun h => k _ _ _ h
/-- a loop that never returns: what stands when it ends -/
theorem FB_run {x : Str} {body : List Stmt} {ok : St → Prop} (inv : List V → Loc → St → Prop) (J : Loc → St → Prop)
    (step : ∀ v vs ρ σ, inv (v :: vs) ρ σ → EX prog c (execs body env) (lset ρ x v) σ (loopX (fun ρ' σ' => ok σ' ∧ inv vs ρ' σ') fun fl ρ σ => fl = .next ∧ J ρ σ))
    (done : ∀ ρ σ, inv [] ρ σ → J ρ σ) (k : ∀ ρ σ, J ρ σ → Q .next ρ σ) {xs : List V} {ρ : Loc} {σ : St} (h : inv xs ρ σ) : FB prog c x body env ok xs ρ σ Q :=
  FB.mono (Q := fun fl ρ σ => fl = .next ∧ J ρ σ) (fun f ρ σ ⟨e, j⟩ => e ▸ k ρ σ j) (FB_ind inv step (fun ρ σ h => ⟨rfl, done ρ σ h⟩) h)
theorem CB_ind {x : Str} {elt : PySem.Expr} {ok : St → Prop} {D : Addr} {Q : St → Prop} (inv : List V → Loc → St → Prop)
    (step : ∀ v vs ρ σ, inv (v :: vs) ρ σ → EV prog c (eval elt env) (lset ρ x v) σ fun y σ' => ∃ ys, σ' D = some (.list ys) ∧ ys.length ≤ 1000000 ∧ ok (upd σ' D (.list (ys ++ [y]))) ∧ inv vs (lset ρ x v) (upd σ' D (.list (ys ++ [y]))))
    (done : ∀ ρ σ, inv [] ρ σ → Q σ) : ∀ {xs : List V} {ρ : Loc} {σ : St}, inv xs ρ σ → CB prog c x elt env ok D xs ρ σ Q
  | [], ρ, σ, h => done ρ σ h
  | v :: vs, ρ, σ, h => (step v vs ρ σ h).mono fun y σ' ⟨ys, h1, h2, h3, h4⟩ => ⟨ys, h1, h2, h3, CB_ind inv step done h4⟩
end
end RH

namespace RH
open PySem PySem.W PySem.Calls PyProof.Rows
section
variable {prog : Program} {w : World} {K : Frag} {c : Cx w K} {ρ : Loc} {σ : St} {env : Env} {Q : List V → St → Prop} {rest : List PySem.Expr} {pos : Pos}
theorem EVs_str {x : Str} {k : Nat} {p : Pos} (h : EVs prog c (spliced (backTo pos (starEach rest env))) ρ σ fun xs σ₂ => Q (.str x :: xs) σ₂) :
   EVs prog c (spliced (backTo pos (starEach (.Constant (.str x) k p :: rest) env))) ρ σ Q := EVs_cons rfl (EV_str h)
theorem EVs_int {x : Int} {k : Nat} {p : Pos} (h : EVs prog c (spliced (backTo pos (starEach rest env))) ρ σ fun xs σ₂ => Q (.int x :: xs) σ₂) :
   EVs prog c (spliced (backTo pos (starEach (.Constant (.int x) k p :: rest) env))) ρ σ Q := EVs_cons rfl (EV_int h)
theorem EVs_row {x : Str} {y : Int} {k k' kt : Nat} {p p' pt : Pos} (h : EVs prog c (spliced (backTo pos (starEach rest env))) ρ σ fun xs σ₂ => Q (.tup [.str x, .int y] :: xs) σ₂) :
   EVs prog c (spliced (backTo pos (starEach (.Tuple [.Constant (.str x) k p, .Constant (.int y) k' p'] kt pt :: rest) env))) ρ σ Q := EVs_cons rfl (EV_Tuple (EVs_str (EVs_int (EVs_nil ⟨by simp, h⟩))))
end
end RH
namespace RH
open PySem PySem.W PySem.Calls PyProof.Rows
section
variable {prog : Program} {w : World} {K : Frag} {c : Cx w K} {ρ : Loc} {σ : St} {env : Env} {Q : V → St → Prop}
/-- a function that has defaults, all of them given -/
theorem CF_KD {names : List Str} {args : List V} {name qual : Str} {params : Arguments} {body : List Stmt} {scope : Scope} {dV kV doc pm cdv ct : Value} {an : Option Addr} {f : Addr} {fo : Obj} {d : Nat} (hl : K.lookup f = some fo) (hd : d + 1 = c.d)
    (hfd : fo.data = .func (fnX name qual params body scope [] dV kV doc pm an cdv ct)) (hcr : codeIn K cdv qual = true)
    (hbind : ∀ vs : List Value, vs.length = args.length → ∀ S, peek K S (bindArgs (fnX name qual params body scope [] dV kV doc pm an cdv ct) ⟨vs, []⟩) = some (names.zip vs))
    (hlen : names.length = args.length) (hnd : names.Nodup) (hloc : ∀ x ∈ names, scope.names.lookup x = some .local) (hcell : ∀ x ∈ scope.names, x.2 ≠ .cell)
    (hco : scope.isCoroutine = false) (hgen : scope.isGenerator = false) (hk : scope.kind = .function)
    (h : ∀ c' : Cx w K, c'.d = d → EnvOk c' (envX qual scope c'.L f cdv []) → EX prog c' (execs body (envX qual scope c'.L f cdv [])) (names.zip args) σ (fun fl _ σ' => Q (retV fl) σ')) :
    CF prog c f args ρ σ Q :=
  CF_fn hd (fun s S => ⟨⟨fo, S.inK f fo hl, hfd⟩, codeRec_of S.inK hcr⟩) (fun s vs S hv => kp_binds S.inK (hbind vs hv)) hlen hnd hloc hcell hco hgen hk h
end
end RH
namespace RH
open PySem PySem.W PySem.Calls PyProof.Rows
section
variable {prog : Program} {w : World} {K : Frag} {c : Cx w K} {ρ : Loc} {σ : St} {env : Env} {Q : V → St → Prop}
/-- a function that has cells -/
theorem CF_KC {names : List Str} {args : List V} {name qual : Str} {params : Arguments} {body : List Stmt} {scope : Scope} {dV kV doc pm cdv ct : Value} {an : Option Addr} {f : Addr} {fo : Obj} {d : Nat} (hl : K.lookup f = some fo) (hd : d + 1 = c.d)
    (hfd : fo.data = .func (fnX name qual params body scope [] dV kV doc pm an cdv ct)) (hcr : codeIn K cdv qual = true)
    (hbind : ∀ vs : List Value, vs.length = args.length → ∀ S, peek K S (bindArgs (fnX name qual params body scope [] dV kV doc pm an cdv ct) ⟨vs, []⟩) = some (names.zip vs))
    (hkind : (names.all fun y => scope.names.lookup y == some .local || scope.names.lookup y == some .cell) = true) (hnd : ((cellsFrom 0 scope.names []).map (·.1)).Nodup)
    (hco : scope.isCoroutine = false) (hgen : scope.isGenerator = false) (hk : scope.kind = .function)
    (h : ∀ c' : Cx w K, c'.d = d → EnvOk c' (envX qual scope c'.L f cdv (cellsFrom (c'.L + 1) scope.names [])) → (∀ a, c'.L ≤ a → σ a = none) →
      EX prog c' (execs body (envX qual scope c'.L f cdv (cellsFrom (c'.L + 1) scope.names []))) (locV (fun x => scope.names.lookup x) (names.zip args) []) (cellS (celV (fun x => scope.names.lookup x) (names.zip args) fun _ => none) σ (cellsFrom (c'.L + 1) scope.names []))
        (fun fl _ σ' => Q (retV fl) σ')) :
    CF prog c f args ρ σ Q :=
  CF_fnC hd (fun s S => ⟨⟨fo, S.inK f fo hl, hfd⟩, codeRec_of S.inK hcr⟩) (fun s vs S hv => kp_binds S.inK (hbind vs hv)) hkind hnd hco hgen hk h
end
end RH
namespace RH
/-- the cells of a function with two -/
theorem cells2 {σ : St} {L : PySem.Addr} {x y : Option V} (hfr : ∀ a, L ≤ a → σ a = none) : Keep [] σ (upd (upd σ (L + 1) (.cell x)) (L + 1 + 1) (.cell y)) ∧
    upd (upd σ (L + 1) (.cell x)) (L + 1 + 1) (.cell y) (L + 1) = some (.cell x) ∧ upd (upd σ (L + 1) (.cell x)) (L + 1 + 1) (.cell y) (L + 1 + 1) = some (.cell y) := by
  have n1 : L + 1 + 1 ≠ L + 1 := Nat.succ_ne_self _
  have f1 : σ (L + 1) = none := hfr _ (Nat.le_succ _)
  have f2 : σ (L + 1 + 1) = none := hfr _ (Nat.le_add_right _ 2)
  exact ⟨Keep.updNew (Keep.updNew (Keep.refl _ _) f1 _) ((upd_ne n1).trans f2) _, (upd_ne (Ne.symm n1)).trans (upd_same _ _ _), upd_same _ _ _⟩
end RH
namespace RH
open PySem PySem.W PySem.Calls PyProof.Rows
section
variable {prog : Program} {w : World} {K : Frag} {c : Cx w K} {ρ : Loc} {σ : St} {env : Env} {Q : V → St → Prop}
theorem OP_nes {i j : Str} (h : Q (.bool (i != j)) σ) : OP2 prog c (compareOp .NotEq) (.str i) (.str j) ρ σ Q := fun s v u S r₁ r₂ => by
  cases r₁; cases r₂; exact ne_str ⟨_, σ, .bool _, S, Go.refl _ _ _, h⟩
end
end RH
set_option Elab.async false
set_option maxRecDepth 10000
set_option linter.all false
namespace RH
open PySem PySem.W PySem.Calls PyProof.Rows
section
variable {prog : Program} {w : World} {K : Frag} {c : Cx w K} {ρ : Loc} {σ : St} {env : Env} {Q : V → St → Prop}
theorem CF_fnh {names : List Str} {args : List V} {name qual : Str} {params : Arguments} {body : List Stmt} {scope : Scope} {cl : List (Str × Addr)} {dV kV doc pm cdv ct : Value} {an : Option Addr} {f : Addr} {d : Nat} (hd : d + 1 = c.d)
    (ho : ∀ s, Sim prog c ρ σ s → (∃ fo, s.heap.get? f = some fo ∧ fo.data = .func (fnX name qual params body scope cl dV kV doc pm an cdv ct)) ∧ s.heap.CodeRec cdv qual)
    (hbind : ∀ s vs, Sim prog c ρ σ s → vs.length = args.length → BindsTo s (fnX name qual params body scope cl dV kV doc pm an cdv ct) ⟨vs, []⟩ (names.zip vs))
    (hlen : names.length = args.length) (hnd : names.Nodup) (hloc : ∀ x ∈ names, scope.names.lookup x = some .local) (hcell : ∀ x ∈ scope.names, x.2 ≠ .cell)
    (hco : scope.isCoroutine = false) (hgen : scope.isGenerator = false) (hk : scope.kind = .function)
    (h : ∀ c' : Cx w K, c'.d = d → (∀ b o, c.h₀.get? b = some o → c'.h₀.get? b = some o) → EnvOk c' (envX qual scope c'.L f cdv cl) → EX prog c' (execs body (envX qual scope c'.L f cdv cl)) (names.zip args) σ (fun fl _ σ' => Q (retV fl) σ')) :
    CF prog c f args ρ σ Q := fun s vs S rs => by
  obtain ⟨⟨fo, hfo, hfd⟩, hcr⟩ := ho s S
  obtain ⟨m, F⟩ := S.fr
  have hl : vs.length = args.length := rs.length
  refine codeAny_call_def (fd := fnX name qual params body scope cl dV kV doc pm an cdv ct) (body := body) (binds := names.zip vs) (by have := c.dp; show c.A.depth < 1000; omega) hfo hfd (c.T.nolimit.keeps F.keep) hcr rfl (hbind s vs S hl) hcell
    (fun x hx => hloc x.1 (by obtain ⟨a, b⟩ := x; exact (List.of_mem_zip hx).1)) (fun h₁ hns hk₁ => ?_) hco hgen hk
  let c' : Cx w K := c.callee (hideS σ s.heap) S.hidden (envX qual scope s.heap.objs.size f cdv cl) s.heap.objs.size rfl hk d hd
  have S' : Sim prog c' (names.zip args) σ { s with heap := h₁, toks := s.toks + (names.zip vs).length } := by
    refine ⟨⟨_, ⟨hns, fun b o e => hk₁ b o (of_hideS e), Nat.le_of_eq (hideS_size _ _)⟩, ?_⟩, fun a o e => ⟨?_, hideS_none (by rw [e]; simp), (S.obj a o e).2.2.mono (tk_of_ext hk₁) fun ob => hk₁ a ob⟩⟩
    · have key : ∀ (ns : List Str) (us : List Value) (xs : List V), ns.Nodup → VRs s.heap us xs → LR h₁ (ns.zip xs) (fun x => (ns.zip us).reverse.lookup x) := by
        intro ns
        induction ns with
        | nil => intro us xs _ _ x V e; simp [lget] at e
        | cons n ns ih =>
          intro us xs hn hr x V e
          cases hr with
          | nil => simp [lget] at e
          | @cons v y us ys ra rb =>
            rw [List.nodup_cons] at hn
            simp only [List.zip_cons_cons, lget] at e
            simp only [List.zip_cons_cons, List.reverse_cons, List.lookup_append]
            by_cases q : n = x
            · subst q
              rw [if_pos rfl] at e; cases e
              have : (ns.zip us).reverse.lookup n = none := by
                rw [List.lookup_eq_none_iff]
                intro p hp
                have := (List.of_mem_zip (List.mem_reverse.mp hp)).1
                simp
                intro z; rw [z] at hn; exact hn.1 this
              exact ⟨v, by rw [this]; simp, ra.mono (tk_of_ext hk₁)⟩
            · rw [if_neg q] at e
              obtain ⟨u, hu, ru⟩ := ih us ys hn.2 rb x V e
              exact ⟨u, by dsimp only at hu; rw [hu]; rfl, ru⟩
      exact key names vs args hnd rs
    · intro z
      obtain ⟨ob, hob, _⟩ := (S.obj a o e).2.2.nt
      have : a = s.heap.objs.size := z
      rw [this] at hob
      exact absurd (Heap.lt_size hob) (Nat.lt_irrefl _)
  refine wpAny_mono (EX.run (c := c') (h c' rfl (by obtain ⟨m, F⟩ := S.hidden; exact F.keep) ⟨rfl, hk, rfl, rfl⟩) S' (P := fun fl s' => ∃ V σ', VR s'.heap (match fl with | .ret v => v | _ => .none) V ∧ Sim prog c ρ σ' s' ∧ Go c.L σ s σ' s' ∧ Q V σ') fun fl s' Fl' ρ' σ' r Sb g q => ?_) (fun fl s' hq => ?_) fun _ _ e => e.elim
  · obtain ⟨Sc, gc⟩ := S.back (c' := c') (fun b o e n => hideS_some e n) Sb (by obtain ⟨h, t, e⟩ := g.st; exact ⟨h, t, e⟩)
    refine ⟨retV Fl', σ', ?_, Sc, gc, q⟩
    cases fl with
    | next => rw [FR_next r]; exact .none
    | brk => rw [FR_brk r]; exact .none
    | cont => rw [FR_cont r]; exact .none
    | ret v => obtain ⟨V, e, r'⟩ := FR_ret r; rw [e]; exact r'
  · exact hq

theorem CF_Kh {names : List Str} {args : List V} {name qual : Str} {params : Arguments} {body : List Stmt} {scope : Scope} {dV kV doc pm cdv ct : Value} {an : Option Addr} {f : Addr} {fo : Obj} {d : Nat} (hl : K.lookup f = some fo) (hd : d + 1 = c.d)
    (hfd : fo.data = .func (fnX name qual params body scope [] dV kV doc pm an cdv ct)) (hcr : codeIn K cdv qual = true)
    (hbind : ∀ vs : List Value, vs.length = args.length → bindArgs (fnX name qual params body scope [] dV kV doc pm an cdv ct) ⟨vs, []⟩ = pure (names.zip vs))
    (hlen : names.length = args.length) (hnd : names.Nodup) (hloc : ∀ x ∈ names, scope.names.lookup x = some .local) (hcell : ∀ x ∈ scope.names, x.2 ≠ .cell)
    (hco : scope.isCoroutine = false) (hgen : scope.isGenerator = false) (hk : scope.kind = .function)
    (h : ∀ c' : Cx w K, c'.d = d → (∀ b o, c.h₀.get? b = some o → c'.h₀.get? b = some o) → EnvOk c' (envX qual scope c'.L f cdv []) → EX prog c' (execs body (envX qual scope c'.L f cdv [])) (names.zip args) σ (fun fl _ σ' => Q (retV fl) σ')) :
    CF prog c f args ρ σ Q :=
  CF_fnh hd (fun s S => ⟨⟨fo, S.inK f fo hl, hfd⟩, codeRec_of S.inK hcr⟩) (fun s vs S hv => BindsTo.of_eq (hbind vs hv)) hlen hnd hloc hcell hco hgen hk h

theorem EV_UptoG {value e : PySem.Expr} {p pos : Pos} (ht : ∀ o r, letTemporaryGo value o r = pure ())
    (h : EV prog c (eval value env) ρ σ fun X σ₁ => EV prog c (eval e env) ρ σ₁ fun I σ₂ => ∃ a vs k, X = .loc a ∧ (∀ s, Sim prog c ρ σ₂ s → ∃ items, s.heap.IsList a items ∧ VRs s.heap items.toList vs) ∧ vs.length ≤ 1000000 ∧ I = .int k ∧ 0 ≤ k ∧ ∀ d, σ₂ d = none → Q (.loc d) (upd σ₂ d (.list (vs.take k.toNat)))) :
    EV prog c (eval (.Subscript value (.Slice none (some e) none p) pos) env) ρ σ Q := fun s S => by
  refine wpAny_Subscript_list_slice (h.run S fun o s₁ X σ₁ rX S₁ g₁ h₁ => ?_) ht
  rw [evalPart_none, evalPart_some]
  refine wpAny_pure (h₁.run S₁ fun i s₂ I σ₂ rI S₂ g₂ ⟨a, vs, k, ex, ha, hz, ek, hk, q⟩ => ?_)
  subst ex; subst ek
  cases rX; cases rI with | int _ t =>
  obtain ⟨items, pl, hv⟩ := ha s₂ S₂
  refine ⟨a, items, _, _, rfl, pl, by rw [len_items hv]; exact Nat.le_trans hz (by decide), .none, .int k t, ?_⟩
  have e : sliceBounds none (some k) none items.size = (((0 : Nat) : Int), ((min k.toNat items.size : Nat) : Int), 1) := by
    simp only [sliceBounds, Option.getD_none, show (1 : Int) > 0 by decide, if_true, if_neg (show ¬ (k < 0) by omega)]
    congr 1
    congr 1
    omega
  rw [kmk_pick_nat _ e]
  have et : ((items.toList.drop 0).take (min k.toNat items.size - 0)) = items.toList.take k.toNat := by
    rw [List.drop_zero, Nat.sub_zero]
    conv => lhs; rw [← Array.length_toList]
    exact kmk_take_min _ _
  rw [et]
  have S3 := S₂.pushT { cls := .type "slice", data := .fields #[.none, .int k t, .none] } s₂.toks
  have hsz : (s₂.heap.push { cls := .type "slice", data := .fields #[.none, .int k t, .none] }).objs.size = s₂.heap.objs.size + 1 := by simp [Heap.push]
  have S4 := S3.pushO { cls := .type "list", data := .seq (items.toList.take k.toNat).toArray } (.list (vs.take k.toNat)) s₂.toks ⟨(items.toList.take k.toNat).toArray, ⟨0, Heap.get?_push_size _ rfl⟩, by simpa using ((hv.take k.toNat).mono (TK.push _ _)).mono (TK.push _ _)⟩
  have g4 := Go.pushO S3 { cls := .type "list", data := .seq (items.toList.take k.toNat).toArray } (.list (vs.take k.toNat)) s₂.toks
  have fr := S3.freshAt
  simp only at S4 g4 fr
  rw [hsz] at S4 g4 fr
  exact ⟨_, _, .loc _, S4, ((g₁.trans g₂).trans (Go.pushT _ _ _ _)).trans g4, q _ fr⟩
/-- a list of ints that was there before -/
def Given (c : Cx w K) (x : Addr) (xs : List Int) : Prop := ∃ items, c.h₀.IsList x items ∧ IntsAre items.toList xs
theorem Given.keep {c' : Cx w K} {x : Addr} {xs : List Int} (h : Given c x xs) (k : ∀ b o, c.h₀.get? b = some o → c'.h₀.get? b = some o) : Given c' x xs := by
  obtain ⟨items, ⟨o, ho, r⟩, hi⟩ := h
  exact ⟨items, ⟨o, k _ _ ho, r⟩, hi⟩
theorem VRs_ints {h : Heap} : ∀ {vs : List Value} {xs : List Int}, IntsAre vs xs → VRs h vs (xs.map V.int)
  | _, _, .nil => .nil
  | _, _, .cons n t r => .cons (.int n t) (VRs_ints r)
theorem Given.at {x : Addr} {xs : List Int} (h : Given c x xs) : ∀ s, Sim prog c ρ σ s → ∃ items, s.heap.IsList x items ∧ VRs s.heap items.toList (xs.map V.int) := fun s S => by
  obtain ⟨items, ⟨o, ho, r⟩, hi⟩ := h
  obtain ⟨m, F⟩ := S.fr
  exact ⟨items, ⟨o, F.keep _ _ ho, r⟩, VRs_ints hi⟩
end
end RH
set_option Elab.async false
set_option maxRecDepth 10000
set_option linter.all false
namespace RH
open PySem PySem.W PySem.Calls PyProof.Rows
def Cx.ofTop {w : World} {K : Frag} {h₀ : Heap} {L : Addr} {p : Program} {loose : List Str} {mean : ExcName → Option Value} {mg mb : Str → Option Value} {env : Env}
    (X : K.In h₀) (T : Top p loose mean mg mb h₀) (B : Below callerA h₀ [] h₀) (hf : env.frame = some L) (hk : env.scope.kind = .function) : Cx w K where
  A := callerA.deeper env
  L := L
  h₀ := h₀
  d := 494
  p := p
  loose := loose
  mean := mean
  mg := mg
  mb := mb
  base := h₀
  frs := [env]
  hA := rfl
  BB := fun g m F => pushX B F hf hk
  X := X
  T := T
  hh := rfl
  dp := by show callerA.depth + 1 + 494 < 1000; decide +kernel
  un := by show callerA.units + 3 + 20 * 494 < 9900; decide +kernel
theorem law_enter {prog : Program} {w : World} {K : Frag} {h₀ : Heap} {L : Addr} {p : Program} {loose : List Str} {mean : ExcName → Option Value} {mg mb : Str → Option Value} {env : Env} {m : Str → Option Value} {news : List (Addr × Obj)} {s : Shared}
    (X : K.In h₀) (T : Top p loose mean mg mb h₀) (B : Below callerA h₀ [] h₀) (F : Fr h₀ L s.heap m) (N : News h₀ L s.heap news) (hf : env.frame = some L) (hk : env.scope.kind = .function)
    {t : Sem Flow} {P : Flow → Shared → Prop} {E : Value → Shared → Prop} (ρ₀ : Loc) (σ₀ : St) {q : Str} {pos : Pos}
    (hσ : ∀ a o, σ₀ a = some o → ∃ ob, (a, ob) ∈ news ∧ (s.heap.get? a = some ob → OR prog w s.heap a o)) (hρ : LR s.heap ρ₀ m)
    (hx : ∀ c : Cx w K, c.L = L → c.h₀ = h₀ → c.d = 494 → EX prog c t ρ₀ σ₀ (fun fl _ σ' => fl = .ret (.bool true) ∧ TabIs 185 pos q σ'))
    (hq : ∀ s' m', s'.gens = s.gens → s'.os = s.os → Fr h₀ L s'.heap m' → GrownAt 185 s'.heap → P (.ret (.bool true)) s') :
    wpAny (model prog w) (callerA.deeper env) t P E s := by
  let c : Cx w K := Cx.ofTop X T B hf hk
  have S : Sim prog c ρ₀ σ₀ s := ⟨⟨m, F, hρ⟩, fun a o e => by
    obtain ⟨ob, hm, ho⟩ := hσ a o e
    obtain ⟨n1, n2, n3⟩ := N _ hm
    exact ⟨n2, n3, ho n1⟩⟩
  refine wpAny_mono (EX.run (c := c) (hx c rfl rfl rfl) S (P := P) fun f s' fl ρ' σ' r S' g ⟨e, ht⟩ => ?_) (fun _ _ h => h) fun _ _ h => h.elim
  subst e
  obtain ⟨⟨h, tk, e⟩, _, _, _⟩ := g
  cases f with
  | next => exact r.elim
  | brk => exact r.elim
  | cont => exact r.elim
  | ret v =>
    cases r
    obtain ⟨m', F', _⟩ := S'.loc
    refine hq s' m' (by rw [e]) (by rw [e]) F' ?_
    cases ht with
    | new h => exact ⟨_, (S'.obj _ _ h).2.2.1⟩
    | old h _ _ _ _ => exact ⟨_, (S'.obj _ _ h).2.2.1⟩
def cells (L : Addr) (n : Nat) : St := fun a => if a = 185 then some (.raw (tabObj #[])) else if L < a ∧ a ≤ L + n then some (.cell none) else none
theorem gapN {L a n : Nat} (h : L < a ∧ a ≤ L + n) : ∃ i, i < n ∧ a = L + 1 + i := ⟨a - L - 1, by omega, by omega⟩
theorem law_enter1 {prog : Program} {w : World} {K : Frag} {h₀ : Heap} {L : Addr} {p : Program} {loose : List Str} {mean : ExcName → Option Value} {mg mb : Str → Option Value} {env : Env} {m : Str → Option Value} {news : List (Addr × Obj)} {s : Shared}
    (X : K.In h₀) (T : Top p loose mean mg mb h₀) (B : Below callerA h₀ [] h₀) (F : Fr h₀ L s.heap m) (N : News h₀ L s.heap news) (hf : env.frame = some L) (hk : env.scope.kind = .function)
    {x : Addr} {vs : List Value} {xs : List Int} (hl : h₀.IsList x vs.toArray) (hI : IntsAre vs xs) (n : Nat)
    {t : Sem Flow} {P : Flow → Shared → Prop} {E : Value → Shared → Prop} {q : Str} {pos : Pos}
    (hm : m "script" = some (.ref x)) (h185 : (185, tabObj #[]) ∈ news) (hc : ∀ i, i < n → ∃ ob, (L + 1 + i, ob) ∈ news ∧ ob.data = .cell none)
    (hx : ∀ c : Cx w K, c.L = L → Given c x xs → c.d = 494 → EX prog c t [("script", .loc x)] (cells L n) (fun fl _ σ' => fl = .ret (.bool true) ∧ TabIs 185 pos q σ'))
    (hq : ∀ s' m', s'.gens = s.gens → s'.os = s.os → Fr h₀ L s'.heap m' → GrownAt 185 s'.heap → P (.ret (.bool true)) s') :
    wpAny (model prog w) (callerA.deeper env) t P E s := by
  refine law_enter X T B F N hf hk [("script", .loc x)] (cells L n) (fun a o e => ?_) ?_ (fun c h1 h2 h3 => hx c h1 ⟨vs.toArray, h2 ▸ hl, hI⟩ h3) hq
  · unfold cells at e
    split at e
    · rename_i z
      subst z; cases e
      exact ⟨_, h185, fun h => ⟨h, fun _ _ e => by cases e⟩⟩
    · split at e
      · rename_i z
        cases e
        obtain ⟨i, hi, rfl⟩ := gapN z
        obtain ⟨ob, h1, h2⟩ := hc i hi
        exact ⟨ob, h1, fun h => ⟨ob, none, h, h2, trivial⟩⟩
      · cases e
  · intro y V e
    simp only [lget] at e
    split at e
    · rename_i z
      subst z
      cases e
      exact ⟨_, hm, .loc _⟩
    · cases e
end RH
set_option Elab.async false
set_option maxRecDepth 10000
set_option linter.all false
namespace RH
open PySem PySem.W PySem.Calls PyProof.Rows

/-! coins, ints -/
def coin : List Int → Int → Int
  | [], _ => 0
  | y :: _, n => y.fmod n
def intl (l : List Int) : List V := l.map V.int
theorem VDs_intl (σ : St) : ∀ l : List Int, VDs σ (intl l) (l.map PyData.int)
  | [] => .nil
  | _ :: r => .cons (.int _) (VDs_intl σ r)
theorem lay_intl (l : List Int) : PyData.canLayAll0 (l.map PyData.int) = true := by
  induction l with
  | nil => rfl
  | cons x r ih => simp [PyData.canLayAll0, PyData.canLay0, ih]
theorem dep_intl (l : List Int) : PyData.depthAll (l.map PyData.int) = 0 := by
  induction l with
  | nil => rfl
  | cons x r ih => simp [PyData.depthAll, PyData.depth, ih]
theorem okD_intl (l : List Int) : okD (.list (l.map PyData.int)) = true := by
  simp [okD, PyData.canLay0, PyData.depth, lay_intl, dep_intl]

/-! tables of numbers -/
def numb {κ : Type} (l : List κ) : List (κ × V) := l.zipIdx.map fun p => (p.1, .int (p.2 : Nat))
def touch {κ : Type} [DecidableEq κ] (l : List κ) (k : κ) : List κ := if k ∈ l then l else l ++ [k]
def ix {κ : Type} [DecidableEq κ] (l : List κ) (k : κ) : Nat := l.idxOf k
theorem ix_snoc {κ : Type} [DecidableEq κ] {l : List κ} {k : κ} (h : k ∉ l) : ix (l ++ [k]) k = l.length := by
  unfold ix
  rw [List.idxOf_append, if_neg h]
  simp
theorem numb_snoc {κ : Type} (l : List κ) (k : κ) : numb (l ++ [k]) = numb l ++ [(k, .int (l.length : Nat))] := by
  simp [numb, List.zipIdx_append]
theorem numb_length {κ : Type} (l : List κ) : (numb l).length = l.length := by simp [numb]
theorem numb_keys {κ : Type} (l : List κ) : (numb l).map (·.1) = l := by
  unfold numb
  rw [List.map_map]
  show List.map (fun p : κ × Nat => p.1) l.zipIdx = l
  simp
theorem kget_numb {κ : Type} [DecidableEq κ] (l : List κ) (k : κ) : kget (numb l) k = if k ∈ l then some (.int (ix l k : Nat)) else none := by
  have key : ∀ (l : List κ) (n : Nat), ((l.zipIdx n).map fun p => (p.1, V.int (p.2 : Nat))).find? (fun kv => decide (kv.1 = k)) = if k ∈ l then some (k, .int ((l.idxOf k + n : Nat))) else none := by
    intro l
    induction l with
    | nil => intro n; rfl
    | cons x r ih =>
      intro n
      simp only [List.zipIdx_cons, List.map_cons, List.find?_cons]
      by_cases q : x = k
      · subst q; simp
      · have q' : ¬ k = x := fun z => q z.symm
        simp only [q, decide_false, ih, List.mem_cons, q', false_or]
        split
        · rw [List.idxOf_cons, show (x == k) = false by simpa using q, cond_false, Nat.add_assoc, Nat.add_comm 1 n]
        · rfl
  unfold kget numb
  rw [key l 0]
  split <;> rfl
theorem kset_numb {κ : Type} [DecidableEq κ] {l : List κ} {k : κ} (h : k ∉ l) : kset (numb l) k (.int (l.length : Nat)) = numb (l ++ [k]) := by
  unfold kset
  have : (numb l).any (fun kv => decide (kv.1 = k)) = false := by
    rw [any_keys, numb_keys]
    simp
    intro x hx z
    subst z; exact h hx
  rw [this, numb_snoc]
  rfl
theorem touch_mem {κ : Type} [DecidableEq κ] (l : List κ) (k : κ) : k ∈ touch l k := by
  unfold touch; split
  · assumption
  · simp
theorem touch_sub {κ : Type} [DecidableEq κ] {l : List κ} {k x : κ} (h : x ∈ l) : x ∈ touch l k := by
  unfold touch; split
  · exact h
  · simp [h]
theorem touch_length {κ : Type} [DecidableEq κ] (l : List κ) (k : κ) : (touch l k).length ≤ l.length + 1 := by
  unfold touch; split <;> simp

/-! what a table of symbols is -/
structure SyA (σ : St) (x dx a1 a2 a3 a4 : Addr) (ts : List Str) (fs : List (List Int)) : Prop where
  x : σ x = some (.inst 122 dx)
  ns : σ dx = some (.ns [("texts", .loc a1), ("atom_numbers", .loc a2), ("functors", .loc a3), ("functor_numbers", .loc a4)])
  o1 : σ a1 = some (.list (ts.map V.str))
  o2 : σ a2 = some (.dictS (numb ts))
  o3 : σ a3 = some (.list (fs.map fun k => .tup (k.map V.int)))
  o4 : σ a4 = some (.dictT (numb fs))
  ne : a1 ≠ a3
theorem SyA.keep {σ σ' : St} {x dx a1 a2 a3 a4 : Addr} {ts : List Str} {fs : List (List Int)} (h : SyA σ x dx a1 a2 a3 a4 ts fs) {S : List Addr} (k : Keep S σ σ') (n : ∀ a ∈ S, σ a ≠ some (.inst 122 dx) ∧ a ≠ dx ∧ a ≠ a1 ∧ a ≠ a2 ∧ a ≠ a3 ∧ a ≠ a4) : SyA σ' x dx a1 a2 a3 a4 ts fs where
  x := k _ _ h.x fun m => (n _ m).1 h.x
  ns := k _ _ h.ns fun m => (n _ m).2.1 rfl
  o1 := k _ _ h.o1 fun m => (n _ m).2.2.1 rfl
  o2 := k _ _ h.o2 fun m => (n _ m).2.2.2.1 rfl
  o3 := k _ _ h.o3 fun m => (n _ m).2.2.2.2.1 rfl
  o4 := k _ _ h.o4 fun m => (n _ m).2.2.2.2.2 rfl
  ne := h.ne
/-! the first symbols, read off -/
def bodyAt (K : Frag) (a : Addr) : List Stmt := match K.lookup a with
  | some o => match o.data with
    | .func fd => match fd.body with
      | .stmts b => b
      | _ => []
    | _ => []
  | _ => []
def strsE : List PySem.Expr → List Str
  | .Constant (.str s) _ _ :: r => s :: strsE r
  | _ => []
def rowsE : List PySem.Expr → List (Str × Int)
  | .Tuple [.Constant (.str s) _ _, .Constant (.int n) _ _] _ _ :: r => (s, n) :: rowsE r
  | _ => []
def atomsB : List Stmt → List Str
  | [.Return (some (.Tuple es _ _)) _] => strsE es
  | _ => []
def rowsB : List Stmt → List (Str × Int)
  | [.Return (some (.Tuple es _ _)) _] => rowsE es
  | _ => []
def rowV (r : Str × Int) : V := .tup [.str r.1, .int r.2]
def symA (l : List Str) : List Str := l.foldl touch []
def symStep (p : List Str × List (List Int)) (r : Str × Int) : List Str × List (List Int) :=
  (touch p.1 r.1, touch p.2 [(ix (touch p.1 r.1) r.1 : Nat), r.2])
def symF (l : List Str) (rs : List (Str × Int)) : List Str × List (List Int) := rs.foldl symStep (symA l, [])
end RH
namespace RH
open PySem PySem.W PySem.Calls PyProof.Rows
/-! the maker -/
structure NoA (σ : St) (m dm wk : Addr) (sy il fr : V) (n : Int) (ws : List V) : Prop where
  x : σ m = some (.inst 390 dm)
  ns : σ dm = some (.ns [("symbols", sy), ("inline", il), ("fresh", fr), ("next_variable", .int n), ("work", .loc wk)])
  wk : σ wk = some (.list ws)
end RH
namespace RH
open PySem PySem.W PySem.Calls PyProof.Rows
theorem coin_ge (cs : List Int) {n : Int} (h : 0 < n) : 0 ≤ coin cs n := by
  cases cs with
  | nil => exact Int.le_refl _
  | cons y r => exact Int.fmod_nonneg_of_pos y h
theorem coin_lt (cs : List Int) {n : Int} (h : 0 < n) : coin cs n < n := by
  cases cs with
  | nil => exact h
  | cons y r => exact Int.fmod_lt_of_pos y h
theorem vidx_map {α : Type} (f : α → V) (l : List α) {k : Int} (h0 : 0 ≤ k) (h1 : k < l.length) (h2 : k ≤ 1000000) : ∃ x ∈ l, vidx (l.map f) k = some (f x) := by
  have hk : k.toNat < l.length := by omega
  refine ⟨l[k.toNat], List.getElem_mem _, ?_⟩
  unfold vidx
  rw [if_neg (by omega), if_pos h0, List.getElem?_map, List.getElem?_eq_getElem hk]
  rfl
theorem tail_le {α : Type} (l : List α) : l.tail.length ≤ l.length := by simp
end RH
set_option Elab.async false
set_option maxRecDepth 10000
set_option linter.all false
namespace RH
open PySem PySem.W PySem.Calls PyProof.Rows

/-! data of plain values -/
mutual
def dOf : V → PyData
  | .none => .none
  | .bool b => .bool b
  | .int i => .int i
  | .str s => .str s
  | .tup vs => .tuple (dsOf vs)
  | .loc _ => .none
def dsOf : List V → List PyData
  | [] => []
  | v :: r => dOf v :: dsOf r
end
def good : Nat → V → Bool
  | _, .none => true
  | _, .bool _ => true
  | _, .int _ => true
  | _, .str s => PyData.canLay0 (.str s)
  | n + 1, .tup vs => vs.all (good n)
  | _, _ => false
theorem good_all (σ : St) (n : Nat) (ih : ∀ v, good n v = true → VD σ v (dOf v) ∧ (dOf v).canLay0 = true ∧ (dOf v).depth ≤ n) : ∀ vs : List V, vs.all (good n) = true → VDs σ vs (dsOf vs) ∧ PyData.canLayAll0 (dsOf vs) = true ∧ PyData.depthAll (dsOf vs) ≤ n
  | [], _ => ⟨.nil, rfl, Nat.zero_le _⟩
  | v :: r, h => by
    simp only [List.all_cons, Bool.and_eq_true] at h
    obtain ⟨a1, a2, a3⟩ := ih v h.1
    obtain ⟨b1, b2, b3⟩ := good_all σ n ih r h.2
    refine ⟨.cons a1 b1, ?_, ?_⟩
    · simp [dsOf, PyData.canLayAll0, a2, b2]
    · simp only [dsOf, PyData.depthAll]; omega
theorem good_VD (σ : St) : ∀ (n : Nat) (v : V), good n v = true → VD σ v (dOf v) ∧ (dOf v).canLay0 = true ∧ (dOf v).depth ≤ n
  | n, .none, _ => ⟨.none, rfl, Nat.zero_le _⟩
  | n, .bool b, _ => ⟨.bool b, rfl, Nat.zero_le _⟩
  | n, .int i, _ => ⟨.int i, rfl, Nat.zero_le _⟩
  | n, .str s, h => ⟨.str s, by cases n <;> exact h, Nat.zero_le _⟩
  | n + 1, .tup vs, h => by
    obtain ⟨b1, b2, b3⟩ := good_all σ n (good_VD σ n) vs h
    exact ⟨.tup b1, b2, by show PyData.depthAll _ + 1 ≤ _; omega⟩
  | 0, .tup vs, h => by cases h
  | n, .loc a, h => by cases n <;> cases h
theorem good_VDs (σ : St) (n : Nat) (vs : List V) (h : vs.all (good n) = true) : VDs σ vs (dsOf vs) ∧ PyData.canLayAll0 (dsOf vs) = true ∧ PyData.depthAll (dsOf vs) ≤ n := good_all σ n (good_VD σ n) vs h
theorem good_mono : ∀ {n m : Nat} {v : V}, good n v = true → n ≤ m → good m v = true
  | n, m, .none, _, _ => by cases m <;> rfl
  | n, m, .bool b, _, _ => by cases m <;> rfl
  | n, m, .int i, _, _ => by cases m <;> rfl
  | n, m, .str s, h, _ => by cases m <;> cases n <;> exact h
  | n + 1, m + 1, .tup vs, h, hm => by
    simp only [good, List.all_eq_true] at h ⊢
    exact fun v hv => good_mono (h v hv) (by omega)
  | n + 1, 0, .tup vs, h, hm => by omega
  | 0, m, .tup vs, h, hm => by cases h
  | n, m, .loc a, h, _ => by cases n <;> cases h
theorem okD_of {n : Nat} {d : PyData} (h1 : d.canLay0 = true) (h2 : d.depth ≤ n) (h3 : n ≤ 1000) : okD d = true := by
  simp [okD, h1]; omega

/-! pieces: terms and goals -/
inductive Pc where
  | var (i : Int)
  | leaf (b : Bool)
  | st (k : Fin 3) (f : Int) (as : List Pc)
  | uni (l r : Pc)
  | num (k : Fin 3) (i : Int)
  | bare (b : Bool)
def leafV (b : Bool) : V := if b then .tup [.str "i", .int 7] else .tup [.str "a", .int 3]
def stS (k : Fin 3) : Str := if k = 0 then "s" else if k = 1 then "call" else "builtin"
def numS (k : Fin 3) : Str := if k = 0 then "mark" else if k = 1 then "cutto" else "level"
def bareS (b : Bool) : Str := if b then "fail" else "cut"
mutual
def Pc.toV : Pc → V
  | .var i => .tup [.str "v", .int i]
  | .leaf b => leafV b
  | .st k f as => .tup [.str (stS k), .int f, .tup (Pc.toVs as)]
  | .uni l r => .tup [.str "unify", l.toV, r.toV]
  | .num k i => .tup [.str (numS k), .int i]
  | .bare b => .tup [.str (bareS b)]
def Pc.toVs : List Pc → List V
  | [] => []
  | t :: r => t.toV :: Pc.toVs r
end
theorem Pc.toVs_map (l : List Pc) : Pc.toVs l = l.map Pc.toV := by
  induction l with
  | nil => rfl
  | cons t r ih => simp [Pc.toVs, ih]
/-- small -/
def Pc.ok : Nat → Pc → Prop
  | _, .var _ => True
  | _, .leaf _ => True
  | _, .num _ _ => True
  | _, .bare _ => True
  | n + 1, .st _ _ as => as.length ≤ 3 ∧ ∀ a ∈ as, Pc.ok n a
  | n + 1, .uni l r => Pc.ok n l ∧ Pc.ok n r
  | 0, .st _ _ _ => False
  | 0, .uni _ _ => False
/-- a term -/
def Pc.isT : Nat → Pc → Prop
  | _, .var _ => True
  | _, .leaf _ => True
  | n + 1, .st k _ as => k = 0 ∧ as.length ≤ 3 ∧ ∀ a ∈ as, Pc.isT n a
  | _, _ => False
/-- a goal -/
def Pc.isG (n : Nat) : Pc → Prop
  | .st k _ as => k ≠ 0 ∧ as.length ≤ 3 ∧ ∀ a ∈ as, Pc.isT n a
  | .uni l r => l.isT n ∧ r.isT n
  | .num _ _ => True
  | .bare _ => True
  | _ => False
theorem Pc.isT.ok : ∀ {n : Nat} {p : Pc}, p.isT n → p.ok n
  | n, .var _, _ => by cases n <;> trivial
  | n, .leaf _, _ => by cases n <;> trivial
  | n + 1, .st _ _ _, ⟨_, h1, h2⟩ => ⟨h1, fun a ha => Pc.isT.ok (h2 a ha)⟩
  | 0, .st _ _ _, h => h.elim
  | 0, .uni _ _, h => h.elim
  | 0, .num _ _, h => h.elim
  | 0, .bare _, h => h.elim
  | _ + 1, .uni _ _, h => h.elim
  | _ + 1, .num _ _, h => h.elim
  | _ + 1, .bare _, h => h.elim
theorem Pc.isG.ok {n : Nat} {p : Pc} (h : p.isG n) : p.ok (n + 1) := by
  cases p with
  | st k f as => exact ⟨h.2.1, fun a ha => (h.2.2 a ha).ok⟩
  | uni l r => exact ⟨h.1.ok, h.2.ok⟩
  | num k i => trivial
  | bare b => trivial
  | var i => trivial
  | leaf b => trivial

/-! the sequential renaming -/
mutual
def rnS : Pc → List Int → Pc × List Int
  | .var i, ks => (.var (ix (touch ks i) i : Nat), touch ks i)
  | .leaf b, ks => (.leaf b, ks)
  | .st k f as, ks => (.st k f (rnSs as ks).1, (rnSs as ks).2)
  | .uni l r, ks => (.uni (rnS l ks).1 (rnS r (rnS l ks).2).1, (rnS r (rnS l ks).2).2)
  | .num k i, ks => (.num k (ix (touch ks i) i : Nat), touch ks i)
  | .bare b, ks => (.bare b, ks)
def rnSs : List Pc → List Int → List Pc × List Int
  | [], ks => ([], ks)
  | t :: r, ks => ((rnS t ks).1 :: (rnSs r (rnS t ks).2).1, (rnSs r (rnS t ks).2).2)
end
mutual
def Pc.nums : Pc → List Int
  | .var i => [i]
  | .leaf _ => []
  | .st _ _ as => Pc.numss as
  | .uni l r => l.nums ++ r.nums
  | .num _ i => [i]
  | .bare _ => []
def Pc.numss : List Pc → List Int
  | [] => []
  | t :: r => t.nums ++ Pc.numss r
end
mutual
def Pc.ren (g : Int → Int) : Pc → Pc
  | .var i => .var (g i)
  | .leaf b => .leaf b
  | .st k f as => .st k f (Pc.rens g as)
  | .uni l r => .uni (l.ren g) (r.ren g)
  | .num k i => .num k (g i)
  | .bare b => .bare b
def Pc.rens (g : Int → Int) : List Pc → List Pc
  | [] => []
  | t :: r => t.ren g :: Pc.rens g r
end
/-! the shape -/
mutual
def Pc.shape : Pc → List V
  | .var _ => [.str "v"]
  | .leaf b => [leafV b]
  | .st k f as => .tup [.str (stS k), .int f, .int (as.length : Nat)] :: Pc.shapes as
  | .uni l r => .str "unify" :: (l.shape ++ r.shape)
  | .num k _ => [.str (numS k)]
  | .bare b => [.tup [.str (bareS b)]]
def Pc.shapes : List Pc → List V
  | [] => []
  | t :: r => t.shape ++ Pc.shapes r
end
theorem Pc.shapes_len : ∀ {l : List Pc} {m : Nat}, (∀ a ∈ l, a.shape.length ≤ m ∧ a.nums.length ≤ m) → (Pc.shapes l).length ≤ l.length * m ∧ (Pc.numss l).length ≤ l.length * m
  | [], m, _ => ⟨Nat.zero_le _, Nat.zero_le _⟩
  | t :: r, m, h => by
    obtain ⟨a, b⟩ := h t (.head _)
    obtain ⟨c, d⟩ := Pc.shapes_len (l := r) (m := m) fun a ha => h a (.tail _ ha)
    simp only [Pc.shapes, Pc.numss, List.length_append, List.length_cons, Nat.succ_mul]
    omega
theorem Pc.len : ∀ {n : Nat} {p : Pc}, p.ok n → p.shape.length ≤ 4 ^ n ∧ p.nums.length ≤ 4 ^ n
  | n, .var _, _ => ⟨Nat.one_le_pow _ _ (by decide), Nat.one_le_pow _ _ (by decide)⟩
  | n, .leaf b, _ => ⟨Nat.one_le_pow _ _ (by decide), Nat.zero_le _⟩
  | n, .num _ _, _ => ⟨Nat.one_le_pow _ _ (by decide), Nat.one_le_pow _ _ (by decide)⟩
  | n, .bare _, _ => ⟨Nat.one_le_pow _ _ (by decide), Nat.zero_le _⟩
  | n + 1, .st k f as, ⟨h1, h2⟩ => by
    obtain ⟨a, b⟩ := Pc.shapes_len (l := as) (m := 4 ^ n) fun a ha => Pc.len (h2 a ha)
    have h0 : 1 ≤ 4 ^ n := Nat.one_le_pow _ _ (by decide)
    have h3 : as.length * 4 ^ n ≤ 3 * 4 ^ n := Nat.mul_le_mul_right _ h1
    simp only [Pc.shape, Pc.nums, List.length_cons, Nat.pow_succ]
    omega
  | n + 1, .uni l r, ⟨h1, h2⟩ => by
    obtain ⟨a, b⟩ := Pc.len h1
    obtain ⟨c, d⟩ := Pc.len h2
    have h0 : 1 ≤ 4 ^ n := Nat.one_le_pow _ _ (by decide)
    simp only [Pc.shape, Pc.nums, List.length_cons, List.length_append, Nat.pow_succ]
    omega
  | 0, .st _ _ _, h => h.elim
  | 0, .uni _ _, h => h.elim

theorem sok {s : Str} (h : PyData.strOk s = true) : PyData.canLay0 (.str s) = true := by simp only [PyData.canLay0]; exact h
theorem good_str (n : Nat) {s : Str} (h : PyData.canLay0 (.str s) = true) : RH.good n (.str s) = true := by cases n <;> exact h
theorem good_int (n : Nat) (i : Int) : RH.good n (.int i) = true := by cases n <;> rfl
theorem good_tup {n : Nat} {vs : List V} (h : ∀ v ∈ vs, RH.good n v = true) : RH.good (n + 1) (.tup vs) = true := List.all_eq_true.mpr h
theorem good_tup2 {n : Nat} {x y : V} (hx : RH.good n x = true) (hy : RH.good n y = true) : RH.good (n + 1) (.tup [x, y]) = true := good_tup fun v hv => by
  simp at hv
  rcases hv with rfl | rfl
  · exact hx
  · exact hy
theorem good_tup3 {n : Nat} {x y z : V} (hx : RH.good n x = true) (hy : RH.good n y = true) (hz : RH.good n z = true) : RH.good (n + 1) (.tup [x, y, z]) = true := good_tup fun v hv => by
  simp at hv
  rcases hv with rfl | rfl | rfl
  · exact hx
  · exact hy
  · exact hz
theorem numS_ok (k : Fin 3) : PyData.strOk (numS k) = true := by
  unfold numS
  split
  · decide +kernel
  · split <;> decide +kernel
theorem stS_ok (k : Fin 3) : PyData.strOk (stS k) = true := by
  unfold stS
  split
  · decide +kernel
  · split <;> decide +kernel
theorem bareS_ok (b : Bool) : PyData.strOk (bareS b) = true := by cases b <;> decide +kernel
theorem leaf_good (n : Nat) (b : Bool) : RH.good (n + 1) (leafV b) = true := by
  cases b
  · exact good_tup2 (good_str _ (sok (by decide +kernel))) (good_int _ _)
  · exact good_tup2 (good_str _ (sok (by decide +kernel))) (good_int _ _)
theorem Pc.good : ∀ (n : Nat) (t : Pc), t.ok n → RH.good (2 * n + 1) t.toV = true
  | n, .var i, _ => good_tup2 (good_str _ (sok (by decide +kernel))) (good_int _ _)
  | n, .leaf b, _ => leaf_good _ _
  | n, .num k i, _ => good_tup2 (good_str _ (sok (numS_ok k))) (good_int _ _)
  | n, .bare b, _ => good_tup (n := 2 * n) fun v hv => by
      simp at hv; subst hv
      exact good_str _ (sok (bareS_ok b))
  | n + 1, .st k f as, ⟨_, h⟩ => by
    refine good_tup3 (n := 2 * n + 2) (good_str _ (sok (stS_ok k))) (good_int _ _) (good_tup (n := 2 * n + 1) ?_)
    rw [Pc.toVs_map]
    intro v hv
    obtain ⟨a, ha, rfl⟩ := List.mem_map.mp hv
    exact Pc.good n a (h a ha)
  | n + 1, .uni l r, ⟨h1, h2⟩ => good_tup3 (n := 2 * n + 2) (good_str _ (sok (by decide +kernel))) (good_mono (Pc.good n l h1) (by omega)) (good_mono (Pc.good n r h2) (by omega))
  | 0, .st _ _ _, h => h.elim
  | 0, .uni _ _, h => h.elim

/-- a comprehension that draws things from the coins -/
theorem gen_CB {prog : Program} {w : World} {K : Frag} {c : Cx w K} {ρ : Loc} {τ : St} {env : Env} {α : Type} (tv : α → V) (okp : α → Prop) {x : Str} {elt : PySem.Expr} {D a L1 : Addr} {cs : List Int} {xs : List V} {Q : St → Prop}
    (hcell : τ L1 = some (.cell (some (.loc a)))) (hD : τ D = some (.list [])) (hDa : D ≠ a) (ha : τ a = some (.list (intl cs.reverse))) (hz : cs.length ≤ 1000000) (hxs : xs.length ≤ 1000)
    (step : ∀ (ρ2 : Loc) (σ2 : St) (cs' : List Int) (Q' : V → St → Prop), σ2 L1 = some (.cell (some (.loc a))) → σ2 a = some (.list (intl cs'.reverse)) → cs'.length ≤ 1000000 →
      (∀ (t : α) (cs2 : List Int) (σ3 : St), okp t → Keep [a] σ2 σ3 → σ3 a = some (.list (intl cs2.reverse)) → cs2.length ≤ cs'.length → Q' (tv t) σ3) → EV prog c (eval elt env) ρ2 σ2 Q')
    (done : ∀ (σ' : St) (ts : List α) (cs' : List Int), σ' D = some (.list (ts.map tv)) → Keep [D, a] τ σ' → σ' a = some (.list (intl cs'.reverse)) → cs'.length ≤ cs.length → (∀ t ∈ ts, okp t) → ts.length = xs.length → Q σ') :
    CB prog c x elt env (fun _ => True) D xs ρ τ Q := by
  have L1D : L1 ≠ D := fun z => by subst z; rw [hD] at hcell; cases hcell
  have L1a : L1 ≠ a := fun z => by subst z; rw [ha] at hcell; cases hcell
  refine CB_ind (fun vs ρ σ' => ∃ (ts : List α) (cs' : List Int), σ' D = some (.list (ts.map tv)) ∧ Keep [D, a] τ σ' ∧ σ' a = some (.list (intl cs'.reverse)) ∧ cs'.length ≤ cs.length ∧ (∀ t ∈ ts, okp t) ∧ ts.length + vs.length = xs.length) ?_ ?_
    ⟨[], cs, hD, .refl _ _, ha, Nat.le_refl _, by simp, by simp⟩
  · rintro v vs ρ2 σ2 ⟨ts, cs', hD2, k2, ha2, hcs, hts, hz2⟩
    refine step _ σ2 cs' _ (k2 _ _ hcell (by simp [L1D, L1a])) ha2 (by omega) fun t cs2 σ3 ht k3 ha3 hcs2 => ?_
    have hD3 := k3 _ _ hD2 (by simpa using hDa)
    simp at hz2
    refine ⟨_, hD3, by simp; omega, trivial, ts ++ [t], cs2, (upd_same _ _ _).trans (by simp), (k2.trans (k3.wide (by simp))).updIn (.head _) _, (upd_ne (Ne.symm hDa)).trans ha3, by omega, ?_, by simp; omega⟩
    intro t' ht'
    rcases List.mem_append.mp ht' with h' | h'
    · exact hts _ h'
    · simp at h'; exact h' ▸ ht
  · rintro ρ2 σ2 ⟨ts, cs', hD2, k2, ha2, hcs, hts, hz2⟩
    exact done σ2 ts cs' hD2 k2 ha2 hcs hts (by simpa using hz2)
theorem cells1 {σ : St} {L : PySem.Addr} {x : Option V} (hfr : ∀ a, L ≤ a → σ a = none) : Keep [] σ (upd σ (L + 1) (.cell x)) ∧ upd σ (L + 1) (.cell x) (L + 1) = some (.cell x) :=
  ⟨Keep.updNew (Keep.refl _ _) (hfr _ (Nat.le_succ _)) _, upd_same _ _ _⟩
end RH
namespace RH
open PySem PySem.W PySem.Calls PyProof.Rows
theorem stS_v (k : Fin 3) : (stS k == ("v" : Str)) = false := by unfold stS; split; decide; split <;> decide
theorem stS_u (k : Fin 3) : (stS k == ("unify" : Str)) = false := by unfold stS; split; decide; split <;> decide
theorem numS_v (k : Fin 3) : (numS k == ("v" : Str)) = false := by unfold numS; split; decide; split <;> decide
theorem numS_u (k : Fin 3) : (numS k == ("unify" : Str)) = false := by unfold numS; split; decide; split <;> decide
theorem bareS_v (b : Bool) : (bareS b == ("v" : Str)) = false := by cases b <;> decide
theorem bareS_u (b : Bool) : (bareS b == ("unify" : Str)) = false := by cases b <;> decide
def mclV : List V := [.str "mark", .str "cutto", .str "level"]
def mclD : List PyData := [.str "mark", .str "cutto", .str "level"]
theorem mcl_VD (σ : St) : VDs σ mclV mclD := .cons (.str _) (.cons (.str _) (.cons (.str _) .nil))
theorem mcl_lay : PyData.canLayAll0 mclD = true := by
  simp only [mclD, PyData.canLayAll0, PyData.canLay0]; decide +kernel
theorem okD_str {s : Str} (h : PyData.strOk s = true) : okD (.str s) = true := by simp [okD, PyData.canLay0, PyData.depth, h]
theorem mcl_num (k : Fin 3) : (mclD.any fun y => PyData.eqv y (.str (numS k))) = true := by
  simp only [mclD, List.any_cons, PyData.eqv, List.any_nil]
  unfold numS; split; decide; split <;> decide
theorem mcl_bare (b : Bool) : (mclD.any fun y => PyData.eqv y (.str (bareS b))) = false := by
  simp only [mclD, List.any_cons, PyData.eqv, List.any_nil]
  cases b <;> decide
def leafS (b : Bool) : Str := if b then "i" else "a"
def leafI (b : Bool) : Int := if b then 7 else 3
theorem leafV_eq (b : Bool) : leafV b = .tup [.str (leafS b), .int (leafI b)] := by cases b <;> rfl
theorem mcl_leaf (b : Bool) : (mclD.any fun y => PyData.eqv y (.str (leafS b))) = false := by
  simp only [mclD, List.any_cons, PyData.eqv, List.any_nil]
  cases b <;> decide
theorem leafS_v (b : Bool) : (leafS b == ("v" : Str)) = false := by cases b <;> decide
theorem leafS_u (b : Bool) : (leafS b == ("unify" : Str)) = false := by cases b <;> decide
theorem leafS_ok (b : Bool) : PyData.strOk (leafS b) = true := by cases b <;> decide +kernel
end RH
namespace RH
open PySem PySem.W PySem.Calls PyProof.Rows
def vmclV : List V := [.str "v", .str "mark", .str "cutto", .str "level"]
def vmclD : List PyData := [.str "v", .str "mark", .str "cutto", .str "level"]
theorem vmcl_VD (σ : St) : VDs σ vmclV vmclD := .cons (.str _) (.cons (.str _) (.cons (.str _) (.cons (.str _) .nil)))
theorem vmcl_lay : PyData.canLayAll0 vmclD = true := by
  simp only [vmclD, PyData.canLayAll0, PyData.canLay0]; decide +kernel
theorem vmcl_var : (vmclD.any fun y => PyData.eqv y (.str "v")) = true := by
  simp only [vmclD, List.any_cons, PyData.eqv, List.any_nil]; decide
theorem vmcl_num (k : Fin 3) : (vmclD.any fun y => PyData.eqv y (.str (numS k))) = true := by
  simp only [vmclD, List.any_cons, PyData.eqv, List.any_nil]
  unfold numS; split; decide; split <;> decide
theorem vmcl_st (k : Fin 3) : (vmclD.any fun y => PyData.eqv y (.str (stS k))) = false := by
  simp only [vmclD, List.any_cons, PyData.eqv, List.any_nil]
  unfold stS; split; decide; split <;> decide
theorem vmcl_uni : (vmclD.any fun y => PyData.eqv y (.str "unify")) = false := by
  simp only [vmclD, List.any_cons, PyData.eqv, List.any_nil]; decide
theorem vmcl_bare (b : Bool) : (vmclD.any fun y => PyData.eqv y (.str (bareS b))) = false := by
  simp only [vmclD, List.any_cons, PyData.eqv, List.any_nil]
  cases b <;> decide
theorem vmcl_leaf (b : Bool) : (vmclD.any fun y => PyData.eqv y (.str (leafS b))) = false := by
  simp only [vmclD, List.any_cons, PyData.eqv, List.any_nil]
  cases b <;> decide
def mov (tm pl : Int) (i : Int) : Int := i * tm + pl
theorem Pc.rens_map (g : Int → Int) (l : List Pc) : Pc.rens g l = l.map (Pc.ren g) := by
  induction l with
  | nil => rfl
  | cons t r ih => simp [Pc.rens, ih]
/-- a comprehension over the parts of a tuple -/
theorem map_CB {prog : Program} {w : World} {K : Frag} {c : Cx w K} {ρ : Loc} {τ : St} {env : Env} {α β : Type} (av : α → V) (bv : β → V) (f : α → β) {x : Str} {elt : PySem.Expr} {ok : St → Prop} {D : Addr} {as : List α} {Q : St → Prop}
    (hD : τ D = some (.list [])) (hxs : as.length ≤ 1000) (hok : ∀ σ', Keep [D] τ σ' → ok σ')
    (step : ∀ a ∈ as, ∀ (ρ2 : Loc) (σ2 : St) (Q' : V → St → Prop), Keep [D] τ σ2 → (∀ (σ3 : St), Keep [] σ2 σ3 → Q' (bv (f a)) σ3) → EV prog c (eval elt env) (lset ρ2 x (av a)) σ2 Q')
    (done : ∀ (σ' : St), σ' D = some (.list (as.map fun a => bv (f a))) → Keep [D] τ σ' → Q σ') :
    CB prog c x elt env ok D (as.map av) ρ τ Q := by
  refine CB_ind (fun vs ρ σ' => ∃ (p r : List α), p ++ r = as ∧ vs = r.map av ∧ σ' D = some (.list (p.map fun a => bv (f a))) ∧ Keep [D] τ σ') ?_ ?_ ⟨[], as, rfl, rfl, hD, .refl _ _⟩
  · rintro v vs ρ2 σ2 ⟨p, r, e, hv, hD2, k2⟩
    cases r with
    | nil => cases hv
    | cons a r =>
    cases hv
    subst e
    refine step a (by simp) _ σ2 _ k2 fun σ3 k3 => ?_
    have hD3 := k3 _ _ hD2 (by simp)
    have k4 : Keep [D] τ (upd σ3 D (.list ((p.map fun a => bv (f a)) ++ [bv (f a)]))) := (k2.trans (k3.wide (by simp))).updIn (.head _) _
    refine ⟨_, hD3, by simp at hxs ⊢; omega, hok _ k4, p ++ [a], r, by simp, rfl, (upd_same _ _ _).trans (by simp), k4⟩
  · rintro ρ2 σ2 ⟨p, r, e, hv, hD2, k2⟩
    cases r with
    | cons a r => cases hv
    | nil =>
      simp at e
      subst e
      exact done σ2 hD2 k2
end RH
set_option Elab.async false
set_option maxRecDepth 10000
set_option linter.all false
namespace RH
open PySem PySem.W PySem.Calls PyProof.Rows
/-- bodies -/
inductive Tm where
  | q (k : Int)
  | cut
  | v (k : Int)
  | i (k : Int)
  | neg (t : Tm)
  | bin (o : Fin 3) (l r : Tm)
def opI (o : Fin 3) : Int := if o = 0 then 1 else if o = 1 then 2 else 3
def Tm.toV (n : Int) : Tm → V
  | .q k => .tup [.str "s", .int n, .tup [.tup [.str "v", .int k]]]
  | .cut => .tup [.str "a", .int 15]
  | .v k => .tup [.str "v", .int k]
  | .i k => .tup [.str "i", .int k]
  | .neg t => .tup [.str "s", .int 4, .tup [t.toV n]]
  | .bin o l r => .tup [.str "s", .int (opI o), .tup [l.toV n, r.toV n]]
def Tm.ok : Nat → Tm → Prop
  | _, .q _ => True
  | _, .cut => True
  | _, .v _ => True
  | _, .i _ => True
  | n + 1, .neg t => t.ok n
  | n + 1, .bin _ l r => l.ok n ∧ r.ok n
  | 0, .neg _ => False
  | 0, .bin _ _ _ => False
def Tm.sz : Tm → Nat
  | .neg t => t.sz + 1
  | .bin _ l r => l.sz + r.sz + 1
  | _ => 1
def Tm.cutS : Tm → Bool
  | .cut => true
  | .bin o l r => if o = 2 then r.cutS else l.cutS || r.cutS
  | _ => false
def Tm.numG : Tm → Bool
  | .i _ => true
  | .bin _ l r => l.numG || r.numG
  | _ => false
def Tm.spine : Tm → List Tm
  | .bin o l r => if o = 1 then l :: r.spine else [.bin o l r]
  | t => [t]
/-- a row of terms, put together again -/
def joinT : List Tm → Tm
  | [] => .cut
  | [t] => t
  | t :: r => .bin 1 t (joinT r)
theorem spine_ne : ∀ t : Tm, t.spine ≠ []
  | .q _ => by simp [Tm.spine]
  | .cut => by simp [Tm.spine]
  | .v _ => by simp [Tm.spine]
  | .i _ => by simp [Tm.spine]
  | .neg _ => by simp [Tm.spine]
  | .bin o l r => by
    unfold Tm.spine
    split <;> simp
theorem join_spine : ∀ t : Tm, joinT t.spine = t
  | .q _ => rfl
  | .cut => rfl
  | .v _ => rfl
  | .i _ => rfl
  | .neg _ => rfl
  | .bin o l r => by
    unfold Tm.spine
    split
    · rename_i h
      subst h
      have := join_spine r
      cases e : r.spine with
      | nil => exact absurd e (spine_ne r)
      | cons x y => rw [e] at this; simp only [joinT]; rw [this]
    · rfl
theorem Tm.ok_mono : ∀ {n m : Nat} {t : Tm}, t.ok n → n ≤ m → t.ok m
  | n, m, .q _, _, _ => by cases m <;> trivial
  | n, m, .cut, _, _ => by cases m <;> trivial
  | n, m, .v _, _, _ => by cases m <;> trivial
  | n, m, .i _, _, _ => by cases m <;> trivial
  | n + 1, m + 1, .neg t, h, hm => Tm.ok_mono (t := t) h (by omega)
  | n + 1, m + 1, .bin o l r, h, hm => ⟨Tm.ok_mono h.1 (by omega), Tm.ok_mono h.2 (by omega)⟩
  | 0, _, .neg _, h, _ => h.elim
  | 0, _, .bin _ _ _, h, _ => h.elim
  | _ + 1, 0, .neg _, _, h => by omega
  | _ + 1, 0, .bin _ _ _, _, h => by omega
theorem Tm.sz_le : ∀ {n : Nat} {t : Tm}, t.ok n → t.sz + 1 ≤ 2 ^ (n + 1)
  | n, .q _, _ => by have := Nat.one_le_pow n 2 (by decide); simp only [Tm.sz, Nat.pow_succ]; omega
  | n, .cut, _ => by have := Nat.one_le_pow n 2 (by decide); simp only [Tm.sz, Nat.pow_succ]; omega
  | n, .v _, _ => by have := Nat.one_le_pow n 2 (by decide); simp only [Tm.sz, Nat.pow_succ]; omega
  | n, .i _, _ => by have := Nat.one_le_pow n 2 (by decide); simp only [Tm.sz, Nat.pow_succ]; omega
  | n + 1, .neg t, h => by
    have := Tm.sz_le (n := n) (t := t) h
    simp only [Tm.sz, Nat.pow_succ] at *; omega
  | n + 1, .bin o l r, h => by
    have a := Tm.sz_le h.1
    have b := Tm.sz_le h.2
    simp only [Tm.sz, Nat.pow_succ] at *; omega
  | 0, .neg _, h => h.elim
  | 0, .bin _ _ _, h => h.elim
theorem Tm.good (q : Int) : ∀ (n : Nat) (t : Tm), t.ok n → RH.good (2 * n + 3) (t.toV q) = true
  | n, .q k, _ => good_tup3 (n := 2 * n + 2) (good_str _ (sok (by decide +kernel))) (good_int _ _) (good_tup (n := 2 * n + 1) fun v hv => by
      simp at hv; subst hv
      exact good_tup2 (n := 2 * n) (good_str _ (sok (by decide +kernel))) (good_int _ _))
  | n, .cut, _ => good_tup2 (good_str _ (sok (by decide +kernel))) (good_int _ _)
  | n, .v k, _ => good_tup2 (good_str _ (sok (by decide +kernel))) (good_int _ _)
  | n, .i k, _ => good_tup2 (good_str _ (sok (by decide +kernel))) (good_int _ _)
  | n + 1, .neg t, h => good_tup3 (n := 2 * n + 4) (good_str _ (sok (by decide +kernel))) (good_int _ _) (good_tup (n := 2 * n + 3) fun v hv => by
      simp at hv; subst hv
      exact Tm.good q n t h)
  | n + 1, .bin o l r, h => good_tup3 (n := 2 * n + 4) (good_str _ (sok (by decide +kernel))) (good_int _ _) (good_tup2 (n := 2 * n + 3) (Tm.good q n l h.1) (Tm.good q n r h.2))
  | 0, .neg _, h => h.elim
  | 0, .bin _ _ _, h => h.elim
end RH
set_option Elab.async false
set_option maxRecDepth 100000
set_option maxHeartbeats 4000000
set_option linter.all false
namespace RH
open PySem PySem.W PySem.Calls PyProof.Rows
section
variable {prog : Program} {w : World} {c : Cx w (hd2.heap_39 w.params)} {ρ : Loc} {σ : St} {Q : V → St → Prop}
theorem c_coin {d : Nat} (hd : d + 1 = c.d) (hdd : 100 ≤ d) {a : Addr} {n : Int} {cs : List Int} (hn : n ≠ 0) (hz : cs.length ≤ 1000000) (ha : σ a = some (.list (intl cs.reverse)))
   (h : ∀ σ', Keep [a] σ σ' → σ' a = some (.list (intl cs.tail.reverse)) → Q (.int (coin cs n)) σ') :
   CF prog c 415 [.loc a, .int n] ρ σ Q := by
  refine CF_K (names := ["coins", "sides"]) (hl := rfl) hd rfl rfl (all2 fun a b => by kernel_rfl) rfl (by decide) (by decide) (by decide) rfl rfl rfl fun c' hd' he => ?_
  refine EX_cons (EX_Return (EV_IfExp (TR_Compare rfl (EV_local he rfl rfl rfl (EV_List (EVs_nil ⟨by decide, fun b hb => ?_⟩))))))
  have hab := neF ha hb
  refine OP_neD (by omega) (.loc (by rw [upd_ne hab]; exact ha) (VDs_intl _ _)) (.loc (upd_same _ _ _) .nil) (okD_intl _) (by decide) ⟨_, rfl, ?_⟩
  cases cs with
  | nil => 
    refine EV_int ?_
    refine h _ (Keep.updNew (Keep.refl _ _) hb _) (by rw [upd_ne hab]; exact ha)
  | cons x cs =>
    have e : (!PyData.eqv (.list ((x :: cs).reverse.map PyData.int)) (.list [])) = true := by
      cases q : (x :: cs).reverse with
      | nil => simp at q
      | cons y r => simp [PyData.eqv, PyData.eqvAll]
    rw [e]
    refine EV_BinOp (EV_pop rfl rfl (EV_local he rfl rfl rfl ⟨a, intl cs.reverse, .int x, rfl, ?_, ?_, EV_local he rfl rfl rfl (OP_mod hn (h _ ?_ ?_))⟩))
    · rw [upd_ne hab, ha]; simp [intl]
    · simp [intl] at hz ⊢; omega
    · exact Keep.updIn (Keep.updNew (Keep.refl _ _) hb _) (.head _) _
    · exact upd_same _ _ _
theorem c_coins {d : Nat} (hd : d + 1 = c.d) (hdd : 100 ≤ d) {x : Addr} {xs : List Int} (hz : xs.length ≤ 1000000) (hx : σ x = some (.list (intl xs)))
   (h : ∀ b cs σ', σ b = none → Keep [] σ σ' → σ' b = some (.list (intl cs)) → cs.length ≤ 1000 → Q (.loc b) σ') :
   CF prog c 408 [.loc x] ρ σ Q := by
  refine CF_K (names := ["script"]) (hl := rfl) hd rfl rfl (all1 fun a => by kernel_rfl) rfl (by decide) (by decide) (by decide) rfl rfl rfl fun c' hd' he => ?_
  refine EX_cons (EX_Name he rfl rfl (EV_List (EVs_nil ⟨by decide, fun a ha => ?_⟩)))
  have hxa := neF hx ha
  refine EX_cons (EX_For he rfl (fun _ => rfl) (EV_Upto (fun _ _ => rfl) (EV_local he rfl rfl rfl (EV_int ⟨x, intl xs, 60, rfl, (upd_ne hxa).trans hx, by simp [intl]; exact hz, rfl, by decide, fun D hD => ?_⟩))))
  refine ⟨_, _, .list (upd_same _ _ _), ?_⟩
  have haD := neF (upd_same _ _ _) hD
  have hDx : σ D = none := (upd_ne (Ne.symm haD)).symm.trans hD
  refine FB_run (fun vs ρ σ' => Sub [("coins", .loc a)] ρ ∧ Keep [a] (upd (upd σ a (.list [])) D (.list ((intl xs).take 60))) σ' ∧ (∃ cs, σ' a = some (.list (intl cs)) ∧ cs.length ≤ 90) ∧ ∃ l, vs = intl l)
    (fun ρ σ' => Sub [("coins", .loc a)] ρ ∧ Keep [a] (upd (upd σ a (.list [])) D (.list ((intl xs).take 60))) σ' ∧ ∃ cs, σ' a = some (.list (intl cs)) ∧ cs.length ≤ 110) ?_ ?_ ?_ ⟨.cons rfl .nil, .refl _ _, ⟨[], (upd_ne haD).trans (upd_same _ _ _), by decide⟩, xs.take 60, by simp [intl]⟩
  · rintro v vs ρ₁ σ₁ ⟨hs, hk, ⟨cs, ha1, hcs⟩, l, hl⟩
    cases l with
    | nil => cases hl
    | cons i l =>
    cases hl
    refine EX.sub (ρ' := lset [("coins", .loc a)] "cell" (.int i)) (Sub.both hs) ?_
    refine EX_cons (EX_Name he rfl rfl (EV_bcall (x := "abs") he rfl rfl rfl rfl (by decide) rfl rfl rfl (EVs_cons rfl (EV_local he rfl rfl rfl (EVs_nil (OP_abs ?_))))))
    refine EX_cons (EX_For he rfl (fun _ => rfl) (EV_tcall (x := "range") he rfl rfl rfl rfl (by decide) rfl rfl rfl (EVs_cons rfl (EV_int (EVs_nil (OP_range fun r t u v hr => ?_))))))
    refine ⟨_, _, .range (n := 20) (by decide) (upd_same _ _ _), ?_⟩
    have har := neF ha1 hr
    refine FB_run (fun vs ρ σ' => Sub [("coins", .loc a)] ρ ∧ (∃ j, lget ρ "left" = some (.int j)) ∧ Keep [a] (upd (upd σ a (.list [])) D (.list ((intl xs).take 60))) σ' ∧ ∃ cs, σ' a = some (.list (intl cs)) ∧ cs.length + vs.length ≤ 110)
      (fun ρ σ' => Sub [("coins", .loc a)] ρ ∧ Keep [a] (upd (upd σ a (.list [])) D (.list ((intl xs).take 60))) σ' ∧ ∃ cs, σ' a = some (.list (intl cs)) ∧ cs.length ≤ 110) ?_ ?_ ?_
      ⟨.cons rfl .nil, ⟨_, rfl⟩, Keep.updNew hk hr _, cs, (upd_ne har).trans ha1, by simp [rangeV]; omega⟩
    · rintro v vs ρ₂ σ₂ ⟨hs, ⟨j, hj⟩, hk, cs, ha2, hcs⟩
      simp at hcs
      refine EX.sub (ρ' := [("coins", .loc a), ("left", .int j)]) (Sub.miss (.cons (hs _ _ rfl) (.cons hj .nil)) rfl) ?_
      refine EX_cons (EX_Expr rfl rfl (EV_append rfl rfl rfl rfl rfl (EV_local he rfl rfl rfl ⟨a, rfl, ⟨_, ha2⟩, EV_BinOp (EV_local he rfl rfl rfl (EV_int (OP_mod (by decide) ⟨_, ha2, by simp [intl]; omega, ?_⟩)))⟩)))
      refine EX_cons (EX_Name he rfl rfl (EV_BinOp (EV_local he rfl rfl rfl (EV_int (OP_fdiv (by decide) (PyProof.noPylong_small (by decide)) ?_)))))
      have e : intl cs ++ [V.int (j.fmod 1000)] = intl (cs ++ [j.fmod 1000]) := by simp [intl]
      rw [e]
      have hk3 := Keep.updIn hk (.head _) (.list (intl (cs ++ [j.fmod 1000])))
      refine EX_cons (EX_If (TR_Compare rfl (EV_local he rfl rfl rfl (EV_int (OP_eq ⟨_, rfl, ?_⟩)))))
      split
      · exact EX_cons (EX_Break ⟨rfl, .cons rfl .nil, hk3, _, upd_same _ _ _, by simp; omega⟩)
      · exact EX_nil (EX_nil ⟨trivial, .cons rfl .nil, ⟨_, rfl⟩, hk3, _, upd_same _ _ _, by simp; omega⟩)
    · rintro ρ σ' ⟨h1, _, h2, cs, h3, h4⟩
      exact ⟨h1, h2, cs, h3, h4⟩
    · rintro ρ₂ σ₂ ⟨hs, hk, cs, ha2, hcs⟩
      refine EX.sub hs ?_
      refine EX_cons (EX_If (TR_Compare rfl (EV_bcall (x := "len") he rfl rfl rfl rfl (by decide) rfl rfl rfl (EVs_cons rfl (EV_local he rfl rfl rfl (EVs_nil (OP_len_list ha2 (by simp [intl]; omega) (EV_int (OP_gt ⟨_, rfl, ?_⟩)))))))))
      split
      · exact EX_cons (EX_Break ⟨rfl, .cons rfl .nil, hk, cs, ha2, hcs⟩)
      · rename_i hn
        refine EX_nil (EX_nil ⟨hk D _ (upd_same _ _ _) (by simp [Ne.symm haD]), .cons rfl .nil, hk, ⟨cs, ha2, ?_⟩, l, rfl⟩)
        simp [intl] at hn
        omega
  · rintro ρ σ' ⟨h1, h2, ⟨cs, h3, h4⟩, _⟩
    exact ⟨h1, h2, cs, h3, by omega⟩
  · rintro ρ₂ σ₂ ⟨hs, hk, cs, ha2, hcs⟩
    refine EX.sub hs ?_
    refine EX_cons (EX_Expr rfl rfl (EV_reverse rfl rfl (EV_local he rfl rfl rfl ⟨a, _, rfl, ha2, by simp [intl]; omega, ?_⟩)))
    refine EX_cons (EX_Return (EV_local he rfl rfl rfl ?_))
    refine h a cs.reverse _ ha (Keep.drop (Keep.updIn (fun b o e n => hk b o ?_ n) (.head _) _) ha) ((upd_same _ _ _).trans (by simp [intl])) (by simp; omega)
    exact (Keep.updNew (Keep.updNew (Keep.refl [] σ) ha _) hD _) b o e (by simp)

theorem cls_sym : ClsOk (hd2.heap_39 w.params) 122 := ⟨rfl, rfl, rfl, rfl⟩
theorem at_sym1 : AttrOk (hd2.heap_39 w.params) 122 "texts" := ⟨rfl, rfl⟩
theorem at_sym2 : AttrOk (hd2.heap_39 w.params) 122 "atom_numbers" := ⟨rfl, rfl⟩
theorem at_sym3 : AttrOk (hd2.heap_39 w.params) 122 "functors" := ⟨rfl, rfl⟩
theorem at_sym4 : AttrOk (hd2.heap_39 w.params) 122 "functor_numbers" := ⟨rfl, rfl⟩
theorem me_atom : MethOk (hd2.heap_39 w.params) 122 "atom" 56 := ⟨rfl, rfl⟩
theorem me_func : MethOk (hd2.heap_39 w.params) 122 "func" 77 := ⟨rfl, rfl⟩
theorem me_functor : MethOk (hd2.heap_39 w.params) 122 "functor" 70 := ⟨rfl, rfl⟩
theorem c_atom {d : Nat} (hd : d + 1 = c.d) {x dx a1 a2 a3 a4 : Addr} {ts : List Str} {fs : List (List Int)} (hA : SyA σ x dx a1 a2 a3 a4 ts fs) (hz : ts.length ≤ 900000) (t : Str)
   (h : ∀ σ', Keep [a1, a2] σ σ' → SyA σ' x dx a1 a2 a3 a4 (touch ts t) fs → Q (.int (ix (touch ts t) t : Nat)) σ') :
   CF prog c 56 [.loc x, .str t] ρ σ Q := by
  refine CF_K (names := ["self", "text"]) (hl := rfl) hd rfl rfl (all2 fun a b => by kernel_rfl) rfl (by decide) (by decide) (by decide) rfl rfl rfl fun c' hd' he => ?_
  refine EX_cons (EX_Name he rfl rfl (EV_get rfl rfl rfl rfl rfl rfl (EV_attr rfl (EV_local he rfl rfl rfl ⟨x, 122, dx, _, _, rfl, hA.x, hA.ns, cls_sym, at_sym2, rfl, a2, rfl, .inr (.inl ⟨_, hA.o2⟩), EV_local he rfl rfl rfl (EV_UnaryOp (EV_int (OP_neg (OP_getS hA.o2 ?_))))⟩))))
  rw [kget_numb]
  refine EX_cons (EX_If (TR_Compare rfl (EV_local he rfl rfl rfl (EV_int ?_))))
  by_cases q : t ∈ ts
  · rw [if_pos q]
    refine OP_ge ⟨_, rfl, ?_⟩
    rw [if_pos (by simp)]
    have e : touch ts t = ts := if_pos q
    have r := h σ (Keep.refl _ _) (by rw [e]; exact hA)
    rw [e] at r
    exact EX_cons (EX_Return (EV_local he rfl rfl rfl r))
  · rw [if_neg q]
    have e : touch ts t = ts ++ [t] := if_neg q
    refine OP_ge ⟨_, rfl, ?_⟩
    rw [if_neg (by simp)]
    refine EX_nil ?_
    refine EX_cons (EX_Name he rfl rfl (EV_bcall (x := "len") he rfl rfl rfl rfl (by decide) rfl rfl rfl (EVs_cons rfl (EV_attr rfl (EV_local he rfl rfl rfl ⟨x, 122, dx, _, _, rfl, hA.x, hA.ns, cls_sym, at_sym1, rfl, EVs_nil (OP_len_list hA.o1 (by simp; omega) ?_)⟩)))))
    refine EX_cons (EX_Expr rfl rfl (EV_append rfl rfl rfl rfl rfl (EV_attr rfl (EV_local he rfl rfl rfl ⟨x, 122, dx, _, _, rfl, hA.x, hA.ns, cls_sym, at_sym1, rfl, a1, rfl, ⟨_, hA.o1⟩, EV_local he rfl rfl rfl ⟨_, hA.o1, by simp; omega, ?_⟩⟩))))
    have n1 : ∀ {b : Addr} {o : AO}, σ b = some o → o ≠ .list (ts.map V.str) → b ≠ a1 := fun hb hn z => by subst z; rw [hA.o1] at hb; cases hb; exact hn rfl
    have n2 : ∀ {b : Addr} {o : AO}, σ b = some o → o ≠ .dictS (numb ts) → b ≠ a2 := fun hb hn z => by subst z; rw [hA.o2] at hb; cases hb; exact hn rfl
    have k1 : upd σ a1 (.list (ts.map V.str ++ [.str t])) a2 = some (.dictS (numb ts)) := (upd_ne (n1 hA.o2 (by simp))).trans hA.o2
    refine EX_cons (EX_Set rfl (EV_local he rfl rfl rfl (EV_attr rfl (EV_local he rfl rfl rfl ⟨x, 122, dx, _, _, rfl, (upd_ne (n1 hA.x (by simp))).trans hA.x, (upd_ne (n1 hA.ns (by simp))).trans hA.ns, cls_sym, at_sym2, rfl, EV_local he rfl rfl rfl ⟨a2, _, .s k1 (by rw [numb_length]; omega), ?_⟩⟩))))
    refine EX_cons (EX_Return (EV_local he rfl rfl rfl ?_))
    have r := h (upd (upd σ a1 (.list (ts.map V.str ++ [.str t]))) a2 (.dictS (kset (numb ts) t (.int (ts.length : Nat)))))
      (Keep.updIn (Keep.updIn (Keep.refl _ _) (by simp) _) (by simp) _) ?_
    · rw [e, ix_snoc q] at r
      simp only [List.length_map]
      exact r
    · rw [e]
      try simp only [List.length_map]
      rw [kset_numb q]
      exact ⟨(upd_ne (n2 hA.x (by simp))).trans ((upd_ne (n1 hA.x (by simp))).trans hA.x), (upd_ne (n2 hA.ns (by simp))).trans ((upd_ne (n1 hA.ns (by simp))).trans hA.ns),
        (upd_ne (n2 hA.o1 (by simp))).trans ((upd_same _ _ _).trans (by simp)), upd_same _ _ _, (upd_ne (n2 hA.o3 (by simp))).trans ((upd_ne (Ne.symm hA.ne)).trans hA.o3), (upd_ne (n2 hA.o4 (by simp))).trans ((upd_ne (n1 hA.o4 (by simp))).trans hA.o4), hA.ne⟩
theorem c_functor {d : Nat} (hd : d + 1 = c.d) (hdd : 100 ≤ d) {x dx a1 a2 a3 a4 : Addr} {ts : List Str} {fs : List (List Int)} (hA : SyA σ x dx a1 a2 a3 a4 ts fs) (hz : fs.length ≤ 900000) (a n : Int)
   (h : ∀ σ', Keep [a3, a4] σ σ' → SyA σ' x dx a1 a2 a3 a4 ts (touch fs [a, n]) → Q (.int (ix (touch fs [a, n]) [a, n] : Nat)) σ') :
   CF prog c 70 [.loc x, .int a, .int n] ρ σ Q := by
  refine CF_K (names := ["self", "atom", "arity"]) (hl := rfl) hd rfl rfl (all3 fun a b c => by kernel_rfl) rfl (by decide) (by decide) (by decide) rfl rfl rfl fun c' hd' he => ?_
  have hu : c'.A.units + 1 < cLine := by have := c'.roomy (by omega); omega
  refine EX_cons (EX_Name he rfl rfl (EV_Tuple (EVs_cons rfl (EV_local he rfl rfl rfl (EVs_cons rfl (EV_local he rfl rfl rfl (EVs_nil ⟨by simp, ?_⟩)))))))
  refine EX_cons (EX_Name he rfl rfl (EV_get rfl rfl rfl rfl rfl rfl (EV_attr rfl (EV_local he rfl rfl rfl ⟨x, 122, dx, _, _, rfl, hA.x, hA.ns, cls_sym, at_sym4, rfl, a4, rfl, .inr (.inr ⟨_, hA.o4⟩), EV_local he rfl rfl rfl (EV_UnaryOp (EV_int (OP_neg (OP_getT (k := [a, n]) hu hA.o4 ?_))))⟩))))
  rw [kget_numb]
  refine EX_cons (EX_If (TR_Compare rfl (EV_local he rfl rfl rfl (EV_int ?_))))
  by_cases q : [a, n] ∈ fs
  · rw [if_pos q]
    refine OP_ge ⟨_, rfl, ?_⟩
    rw [if_pos (by simp)]
    have e : touch fs [a, n] = fs := if_pos q
    have r := h σ (Keep.refl _ _) (by rw [e]; exact hA)
    rw [e] at r
    exact EX_cons (EX_Return (EV_local he rfl rfl rfl r))
  · rw [if_neg q]
    have e : touch fs [a, n] = fs ++ [[a, n]] := if_neg q
    refine OP_ge ⟨_, rfl, ?_⟩
    rw [if_neg (by simp)]
    refine EX_nil ?_
    refine EX_cons (EX_Name he rfl rfl (EV_bcall (x := "len") he rfl rfl rfl rfl (by decide) rfl rfl rfl (EVs_cons rfl (EV_attr rfl (EV_local he rfl rfl rfl ⟨x, 122, dx, _, _, rfl, hA.x, hA.ns, cls_sym, at_sym3, rfl, EVs_nil (OP_len_list hA.o3 (by simp; omega) ?_)⟩)))))
    refine EX_cons (EX_Expr rfl rfl (EV_append rfl rfl rfl rfl rfl (EV_attr rfl (EV_local he rfl rfl rfl ⟨x, 122, dx, _, _, rfl, hA.x, hA.ns, cls_sym, at_sym3, rfl, a3, rfl, ⟨_, hA.o3⟩, EV_local he rfl rfl rfl ⟨_, hA.o3, by simp; omega, ?_⟩⟩))))
    have n1 : ∀ {b : Addr} {o : AO}, σ b = some o → o ≠ .list (fs.map fun k => .tup (k.map V.int)) → b ≠ a3 := fun hb hn z => by subst z; rw [hA.o3] at hb; cases hb; exact hn rfl
    have n2 : ∀ {b : Addr} {o : AO}, σ b = some o → o ≠ .dictT (numb fs) → b ≠ a4 := fun hb hn z => by subst z; rw [hA.o4] at hb; cases hb; exact hn rfl
    have k1 : upd σ a3 (.list ((fs.map fun k => .tup (k.map V.int)) ++ [.tup [.int a, .int n]])) a4 = some (.dictT (numb fs)) := (upd_ne (n1 hA.o4 (by simp))).trans hA.o4
    refine EX_cons (EX_Set rfl (EV_local he rfl rfl rfl (EV_attr rfl (EV_local he rfl rfl rfl ⟨x, 122, dx, _, _, rfl, (upd_ne (n1 hA.x (by simp))).trans hA.x, (upd_ne (n1 hA.ns (by simp))).trans hA.ns, cls_sym, at_sym4, rfl, EV_local he rfl rfl rfl ⟨a4, _, .t (k := [a, n]) hu k1 (by rw [numb_length]; omega), ?_⟩⟩))))
    refine EX_cons (EX_Return (EV_local he rfl rfl rfl ?_))
    have r := h (upd (upd σ a3 (.list ((fs.map fun k => .tup (k.map V.int)) ++ [.tup [.int a, .int n]]))) a4 (.dictT (kset (numb fs) [a, n] (.int (fs.length : Nat)))))
      (Keep.updIn (Keep.updIn (Keep.refl _ _) (by simp) _) (by simp) _) ?_
    · rw [e, ix_snoc q] at r
      simp only [List.length_map]
      exact r
    · rw [e]
      try simp only [List.length_map]
      rw [kset_numb q]
      exact ⟨(upd_ne (n2 hA.x (by simp))).trans ((upd_ne (n1 hA.x (by simp))).trans hA.x), (upd_ne (n2 hA.ns (by simp))).trans ((upd_ne (n1 hA.ns (by simp))).trans hA.ns),
        (upd_ne (n2 hA.o1 (by simp))).trans ((upd_ne hA.ne).trans hA.o1), (upd_ne (n2 hA.o2 (by simp))).trans ((upd_ne (n1 hA.o2 (by simp))).trans hA.o2), (upd_ne (n2 hA.o3 (by simp))).trans ((upd_same _ _ _).trans (by simp)), upd_same _ _ _, hA.ne⟩
theorem c_func {d : Nat} (hd : d + 2 = c.d) (hdd : 100 ≤ d) {x dx a1 a2 a3 a4 : Addr} {ts : List Str} {fs : List (List Int)} (hA : SyA σ x dx a1 a2 a3 a4 ts fs) (hz : fs.length ≤ 900000) (hz' : ts.length ≤ 900000) (t : Str) (n : Int)
   (h : ∀ σ', Keep [a1, a2, a3, a4] σ σ' → SyA σ' x dx a1 a2 a3 a4 (symStep (ts, fs) (t, n)).1 (symStep (ts, fs) (t, n)).2 → Q (.int (ix (symStep (ts, fs) (t, n)).2 [(ix (touch ts t) t : Nat), n] : Nat)) σ') :
   CF prog c 77 [.loc x, .str t, .int n] ρ σ Q := by
  refine CF_K (names := ["self", "text", "arity"]) (hl := rfl) (d := d + 1) hd rfl rfl (all3 fun a b c => by kernel_rfl) rfl (by decide) (by decide) (by decide) rfl rfl rfl fun c' hd' he => ?_
  refine EX_cons (EX_Return (EV_meth rfl rfl rfl (EV_local he rfl rfl rfl ⟨x, 122, dx, _, 70, rfl, hA.x, hA.ns, cls_sym, me_functor, rfl, EVs_cons rfl (EV_meth rfl rfl rfl (EV_local he rfl rfl rfl ⟨x, 122, dx, _, 56, rfl, hA.x, hA.ns, cls_sym, me_atom, rfl, EVs_cons rfl (EV_local he rfl rfl rfl (EVs_nil ⟨.inl rfl, ?_⟩))⟩))⟩)))
  refine c_atom hd'.symm hA hz' t fun σ1 k1 hA1 => ?_
  refine EVs_cons rfl (EV_local he rfl rfl rfl (EVs_nil ⟨.inl rfl, ?_⟩))
  refine c_functor hd'.symm hdd hA1 hz _ n fun σ2 k2 hA2 => ?_
  exact h σ2 ((k1.wide (by simp)).trans (k2.wide (by simp))) hA2
theorem close_eq {x y : V} (e : x = y) (h : Q x σ) : Q y σ := e ▸ h
theorem c_fixed_atoms {d : Nat} (hd : d + 1 = c.d) (h : Q (.tup ((atomsB (bodyAt (hd2.heap_39 w.params) 28)).map V.str)) σ) : CF prog c 28 [] ρ σ Q := by
  refine CF_K (names := []) (hl := rfl) hd rfl rfl (all0 (by kernel_rfl)) rfl (by decide) (by decide) (by decide) rfl rfl rfl fun c' hd' he => ?_
  refine EX_cons ?_
  refine EX_Return ?_
  refine EV_Tuple ?_
  repeat refine EVs_str ?_
  refine EVs_nil ⟨by decide, ?_⟩
  show Q (V.tup _) σ
  refine close_eq ?_ h
  kernel_rfl
theorem c_fixed_functors {d : Nat} (hd : d + 1 = c.d) (h : Q (.tup ((rowsB (bodyAt (hd2.heap_39 w.params) 35)).map rowV)) σ) : CF prog c 35 [] ρ σ Q := by
  refine CF_K (names := []) (hl := rfl) hd rfl rfl (all0 (by kernel_rfl)) rfl (by decide) (by decide) (by decide) rfl rfl rfl fun c' hd' he => ?_
  refine EX_cons ?_
  refine EX_Return ?_
  refine EV_Tuple ?_
  repeat refine EVs_row ?_
  refine EVs_nil ⟨by decide, ?_⟩
  show Q (V.tup _) σ
  refine close_eq ?_ h
  kernel_rfl

theorem atoms_len : (atomsB (bodyAt (hd2.heap_39 w.params) 28)).length ≤ 500 := Nat.le_of_ble_eq_true (by kernel_rfl)
theorem rows_len : (rowsB (bodyAt (hd2.heap_39 w.params) 35)).length ≤ 500 := Nat.le_of_ble_eq_true (by kernel_rfl)
theorem c_sym_init {d : Nat} (hd : d + 3 = c.d) (hdd : 100 ≤ d) {x dx : Addr} (h1 : σ x = some (.inst 122 dx)) (h2 : σ dx = some (.ns []))
   (h : ∀ σ' a1 a2 a3 a4, Keep [dx] σ σ' → SyA σ' x dx a1 a2 a3 a4 (symF (atomsB (bodyAt (hd2.heap_39 w.params) 28)) (rowsB (bodyAt (hd2.heap_39 w.params) 35))).1 (symF (atomsB (bodyAt (hd2.heap_39 w.params) 28)) (rowsB (bodyAt (hd2.heap_39 w.params) 35))).2 → Q .none σ') :
   CF prog c 49 [.loc x] ρ σ Q := by
  refine CF_K (names := ["self"]) (hl := rfl) (d := d + 2) hd rfl rfl (all1 fun a => by kernel_rfl) rfl (by decide) (by decide) (by decide) rfl rfl rfl fun c' hd' he => ?_
  have xd : x ≠ dx := fun z => by subst z; rw [h1] at h2; cases h2
  refine EX_cons (EX_Attr rfl (EV_List (EVs_nil ⟨by decide, fun a1 ha1 => EV_local he rfl rfl rfl ⟨x, 122, dx, [], rfl, (upd_ne (neF h1 ha1)).trans h1, (upd_ne (neF h2 ha1)).trans h2, cls_sym, at_sym1, by decide, ?_⟩⟩)))
  generalize hσ1 : upd (upd σ a1 (.list [])) dx (.ns (fset [] "texts" (.loc a1))) = σ1
  have k1 : Keep [dx] σ σ1 := hσ1 ▸ Keep.updIn (Keep.updNew (Keep.refl _ _) ha1 _) (.head _) _
  have x1 : σ1 x = some (.inst 122 dx) := k1 _ _ h1 (by simp [xd])
  have d1 : σ1 dx = some (.ns [("texts", .loc a1)]) := by rw [← hσ1]; exact upd_same _ _ _
  have o1 : σ1 a1 = some (.list []) := by rw [← hσ1]; exact (upd_ne (neF' h2 ha1)).trans (upd_same _ _ _)
  refine EX_cons (EX_Attr rfl (EV_DictS fun a2 ha2 => EV_local he rfl rfl rfl ⟨x, 122, dx, _, rfl, (upd_ne (neF x1 ha2)).trans x1, (upd_ne (neF d1 ha2)).trans d1, cls_sym, at_sym2, by simp, ?_⟩))
  generalize hσ2 : upd (upd σ1 a2 (.dictS [])) dx (.ns (fset [("texts", .loc a1)] "atom_numbers" (.loc a2))) = σ2
  have k2 : Keep [dx] σ1 σ2 := hσ2 ▸ Keep.updIn (Keep.updNew (Keep.refl _ _) ha2 _) (.head _) _
  have x2 : σ2 x = some (.inst 122 dx) := k2 _ _ x1 (by simp [xd])
  have d2 : σ2 dx = some (.ns [("texts", .loc a1), ("atom_numbers", .loc a2)]) := by rw [← hσ2]; exact upd_same _ _ _
  have a1d : a1 ≠ dx := fun z => by subst z; rw [o1] at d1; cases d1
  have p1 : σ2 a1 = some (.list []) := k2 _ _ o1 (by simp [a1d])
  have p2 : σ2 a2 = some (.dictS []) := by rw [← hσ2]; exact (upd_ne (neF' d1 ha2)).trans (upd_same _ _ _)
  refine EX_cons (EX_Attr rfl (EV_List (EVs_nil ⟨by decide, fun a3 ha3 => EV_local he rfl rfl rfl ⟨x, 122, dx, _, rfl, (upd_ne (neF x2 ha3)).trans x2, (upd_ne (neF d2 ha3)).trans d2, cls_sym, at_sym3, by simp, ?_⟩⟩)))
  generalize hσ3 : upd (upd σ2 a3 (.list [])) dx (.ns (fset [("texts", .loc a1), ("atom_numbers", .loc a2)] "functors" (.loc a3))) = σ3
  have k3 : Keep [dx] σ2 σ3 := hσ3 ▸ Keep.updIn (Keep.updNew (Keep.refl _ _) ha3 _) (.head _) _
  have x3 : σ3 x = some (.inst 122 dx) := k3 _ _ x2 (by simp [xd])
  have d3 : σ3 dx = some (.ns [("texts", .loc a1), ("atom_numbers", .loc a2), ("functors", .loc a3)]) := by rw [← hσ3]; exact upd_same _ _ _
  have a2d : a2 ≠ dx := fun z => by subst z; rw [p2] at d2; cases d2
  have q1 : σ3 a1 = some (.list []) := k3 _ _ p1 (by simp [a1d])
  have q2 : σ3 a2 = some (.dictS []) := k3 _ _ p2 (by simp [a2d])
  have q3 : σ3 a3 = some (.list []) := by rw [← hσ3]; exact (upd_ne (neF' d2 ha3)).trans (upd_same _ _ _)
  have a13 : a1 ≠ a3 := neF p1 ha3
  have a3d : a3 ≠ dx := fun z => by subst z; rw [q3] at d3; cases d3
  refine EX_cons (EX_Attr rfl (EV_DictT fun a4 ha4 => EV_local he rfl rfl rfl ⟨x, 122, dx, _, rfl, (upd_ne (neF x3 ha4)).trans x3, (upd_ne (neF d3 ha4)).trans d3, cls_sym, at_sym4, by simp, ?_⟩))
  generalize hσ4 : upd (upd σ3 a4 (.dictT [])) dx (.ns (fset [("texts", .loc a1), ("atom_numbers", .loc a2), ("functors", .loc a3)] "functor_numbers" (.loc a4))) = σ4
  have k4 : Keep [dx] σ3 σ4 := hσ4 ▸ Keep.updIn (Keep.updNew (Keep.refl _ _) ha4 _) (.head _) _
  have d4 : σ4 dx = some (.ns [("texts", .loc a1), ("atom_numbers", .loc a2), ("functors", .loc a3), ("functor_numbers", .loc a4)]) := by rw [← hσ4]; exact upd_same _ _ _
  have hA : SyA σ4 x dx a1 a2 a3 a4 [] [] := ⟨k4 _ _ x3 (by simp [xd]), d4, k4 _ _ q1 (by simp [a1d]), k4 _ _ q2 (by simp [a2d]), k4 _ _ q3 (by simp [a3d]), by rw [← hσ4]; exact (upd_ne (neF' d3 ha4)).trans (upd_same _ _ _), a13⟩
  have n1 : σ a1 = none := ha1
  have n2 : σ a2 = none := k1.none ha2 (by simp [a2d])
  have n3 : σ a3 = none := k1.none (k2.none ha3 (by simp [a3d])) (by simp [a3d])
  have a4d : a4 ≠ dx := fun z => by have := hA.o4; subst z; rw [d4] at this; cases this
  have n4 : σ a4 = none := k1.none (k2.none (k3.none ha4 (by simp [a4d])) (by simp [a4d])) (by simp [a4d])
  have fin : ∀ σ', Keep [a1, a2, a3, a4] σ4 σ' → Keep [dx] σ σ' := fun σ' k => by
    have k0 : Keep [dx] σ σ4 := ((k1.trans k2).trans k3).trans k4
    have k' : Keep [a1, a2, a3, a4, dx] σ σ' := (k0.wide (by simp)).trans (k.wide fun b hb => List.mem_append_left [dx] hb)
    exact (((k'.drop n1).drop n2).drop n3).drop n4
  clear hσ1 hσ2 hσ3 hσ4
  refine EX_cons (EX_For he rfl (fun _ => rfl) (EV_fcall0 he rfl rfl rfl rfl rfl (c_fixed_atoms (d := d + 1) hd'.symm ⟨_, _, .tuple, ?_⟩)))
  refine FB_run (fun vs ρ σ' => Sub [("self", .loc x)] ρ ∧ Keep [a1, a2, a3, a4] σ4 σ' ∧ ∃ (l ts : List Str), vs = l.map V.str ∧ l.foldl touch ts = symA (atomsB (bodyAt (hd2.heap_39 w.params) 28)) ∧ SyA σ' x dx a1 a2 a3 a4 ts [] ∧ ts.length + l.length ≤ 1000)
    (fun ρ σ' => Sub [("self", .loc x)] ρ ∧ Keep [a1, a2, a3, a4] σ4 σ' ∧ ∃ ts : List Str, ts = symA (atomsB (bodyAt (hd2.heap_39 w.params) 28)) ∧ SyA σ' x dx a1 a2 a3 a4 ts [] ∧ ts.length ≤ 1000) ?_ ?_ ?_
    ⟨.cons rfl .nil, .refl _ _, _, [], rfl, rfl, hA, by have := atoms_len (w := w); simp; omega⟩
  · rintro v vs ρ1 σ1 ⟨hs, hk, l, ts, hl, hf, hA, hz⟩
    cases l with
    | nil => cases hl
    | cons t l =>
    cases hl
    refine EX.sub (ρ' := lset [("self", .loc x)] "text" (.str t)) (Sub.both hs) ?_
    simp at hz
    refine EX_cons (EX_Expr rfl rfl (EV_meth rfl rfl rfl (EV_local he rfl rfl rfl ⟨x, 122, dx, _, 56, rfl, hA.x, hA.ns, cls_sym, me_atom, rfl, EVs_cons rfl (EV_local he rfl rfl rfl (EVs_nil ⟨.inl rfl, ?_⟩))⟩)))
    refine c_atom (d := d + 1) hd'.symm hA (by omega) t fun σ2 k2 hA2 => ?_
    refine EX_nil ⟨trivial, .cons rfl .nil, hk.trans (k2.wide (by simp)), l, _, rfl, hf, hA2, ?_⟩
    have := touch_length ts t
    omega
  · rintro ρ1 σ1 ⟨hs, hk, l, ts, hl, hf, hA, hz⟩
    cases l with
    | cons t l => cases hl
    | nil => exact ⟨hs, hk, ts, hf, hA, by simpa using hz⟩
  rintro ρ1 σ1 ⟨hs, hk, ts, hts, hA1, hz⟩
  refine EX.sub hs ?_
  refine EX_cons (EX_For he rfl (fun _ => rfl) (EV_fcall0 he rfl rfl rfl rfl rfl (c_fixed_functors (d := d + 1) hd'.symm ⟨_, _, .tuple, ?_⟩)))
  refine FB_run (fun vs ρ σ' => Sub [("self", .loc x)] ρ ∧ Keep [a1, a2, a3, a4] σ4 σ' ∧ ∃ (l : List (Str × Int)) (ts : List Str) (fs : List (List Int)), vs = l.map rowV ∧ l.foldl symStep (ts, fs) = symF (atomsB (bodyAt (hd2.heap_39 w.params) 28)) (rowsB (bodyAt (hd2.heap_39 w.params) 35)) ∧ SyA σ' x dx a1 a2 a3 a4 ts fs ∧ ts.length + l.length ≤ 2000 ∧ fs.length + l.length ≤ 2000)
    (fun ρ σ' => Sub [("self", .loc x)] ρ ∧ Keep [a1, a2, a3, a4] σ4 σ' ∧ ∃ (ts : List Str) (fs : List (List Int)), (ts, fs) = symF (atomsB (bodyAt (hd2.heap_39 w.params) 28)) (rowsB (bodyAt (hd2.heap_39 w.params) 35)) ∧ SyA σ' x dx a1 a2 a3 a4 ts fs) ?_ ?_ ?_
    ⟨.cons rfl .nil, hk, _, ts, [], rfl, by rw [hts]; rfl, hA1, by have := rows_len (w := w); simp; omega, by have := rows_len (w := w); simp; omega⟩
  · rintro v vs ρ1 σ1 ⟨hs, hk, l, ts, fs, hl, hf, hA, hz, hz'⟩
    cases l with
    | nil => cases hl
    | cons t l =>
    cases hl
    refine EX.sub (ρ' := lset [("self", .loc x)] "row" (rowV t)) (Sub.both hs) ?_
    simp at hz hz'
    refine EX_cons (EX_Expr rfl rfl (EV_meth rfl rfl rfl (EV_local he rfl rfl rfl ⟨x, 122, dx, _, 77, rfl, hA.x, hA.ns, cls_sym, me_func, rfl, EVs_cons rfl (EV_Sub (fun _ _ => rfl) (EV_local he rfl rfl rfl (EV_int ⟨_, 0, .str t.1, rfl, rfl, rfl, EVs_cons rfl (EV_Sub (fun _ _ => rfl) (EV_local he rfl rfl rfl (EV_int ⟨_, 1, .int t.2, rfl, rfl, rfl, EVs_nil ⟨.inl rfl, ?_⟩⟩)))⟩)))⟩)))
    refine c_func (d := d) hd'.symm hdd hA (by omega) (by omega) t.1 t.2 fun σ2 k2 hA2 => ?_
    refine EX_nil ⟨trivial, .cons rfl .nil, hk.trans k2, l, _, _, rfl, hf, hA2, ?_, ?_⟩
    · exact Nat.le_trans (Nat.add_le_add_right (touch_length ts _) _) (by omega)
    · exact Nat.le_trans (Nat.add_le_add_right (touch_length fs _) _) (by omega)
  · rintro ρ1 σ1 ⟨hs, hk, l, ts, fs, hl, hf, hA, hz⟩
    cases l with
    | cons t l => cases hl
    | nil => exact ⟨hs, hk, ts, fs, hf, hA⟩
  rintro ρ1 σ1 ⟨hs, hk, ts, fs, hts, hA1⟩
  refine EX_nil ?_
  exact h σ1 a1 a2 a3 a4 (fin _ hk) (by rw [← hts]; exact hA1)

theorem c_Symbols {d : Nat} (hd : d + 4 = c.d) (hdd : 100 ≤ d)
   (h : ∀ σ' x dx a1 a2 a3 a4, σ x = none → Keep [] σ σ' → SyA σ' x dx a1 a2 a3 a4 (symF (atomsB (bodyAt (hd2.heap_39 w.params) 28)) (rowsB (bodyAt (hd2.heap_39 w.params) 35))).1 (symF (atomsB (bodyAt (hd2.heap_39 w.params) 28)) (rowsB (bodyAt (hd2.heap_39 w.params) 35))).2 → Q (.loc x) σ') :
   CF prog c 122 [] ρ σ Q := by
  refine CF_cls (fI := 49) (d := d + 3) hd rfl rfl rfl fun c' x dx hd' hx hdx hne => ?_
  refine c_sym_init (d := d) hd'.symm hdd (x := x) (dx := dx) (upd_same _ _ _) ((upd_ne (Ne.symm hne)).trans (upd_same _ _ _)) fun σ' a1 a2 a3 a4 k hA => ⟨rfl, ?_⟩
  refine h σ' x dx a1 a2 a3 a4 hx ?_ hA
  have k0 : Keep [dx] σ (upd (upd σ dx (.ns [])) x (.inst 122 dx)) := Keep.updNew (Keep.updIn (Keep.refl _ _) (.head _) _) ((upd_ne hne).trans hx) _
  exact (k0.trans k).drop hdx
theorem cls_fresh : ClsOk (hd2.heap_39 w.params) 215 := ⟨rfl, rfl, rfl, rfl⟩
theorem at_fresh : AttrOk (hd2.heap_39 w.params) 215 "next" := ⟨rfl, rfl⟩
theorem c_Fresh {d : Nat} (hd : d + 2 = c.d) (n : Int) (h : ∀ σ' x, σ x = none → Keep [] σ σ' → Q (.loc x) σ') :
   CF prog c 215 [.int n] ρ σ Q := by
  refine CF_cls (fI := 205) (d := d + 1) hd rfl rfl rfl fun c' x dx hd' hx hdx hne => ?_
  refine CF_KD (names := ["self", "first"]) (hl := rfl) (d := d) hd'.symm rfl rfl (all2 fun a b S => by kernel_rfl) rfl (by decide) (by decide) (by decide) rfl rfl rfl fun c' hd' he => ?_
  refine EX_cons (EX_Attr rfl (EV_local he rfl rfl rfl (EV_local he rfl rfl rfl ⟨x, 215, dx, [], rfl, upd_same _ _ _, (upd_ne (Ne.symm hne)).trans (upd_same _ _ _), cls_fresh, at_fresh, by decide, ?_⟩)))
  refine EX_nil ⟨rfl, h _ x hx ?_⟩
  have k0 : Keep [dx] σ (upd (upd σ dx (.ns [])) x (.inst 215 dx)) := Keep.updNew (Keep.updIn (Keep.refl _ _) (.head _) _) ((upd_ne hne).trans hx) _
  exact (k0.updIn (.head _) _).drop hdx
theorem cls_norm : ClsOk (hd2.heap_39 w.params) 390 := ⟨rfl, rfl, rfl, rfl⟩
theorem at_norm1 : AttrOk (hd2.heap_39 w.params) 390 "symbols" := ⟨rfl, rfl⟩
theorem at_norm2 : AttrOk (hd2.heap_39 w.params) 390 "inline" := ⟨rfl, rfl⟩
theorem at_norm3 : AttrOk (hd2.heap_39 w.params) 390 "fresh" := ⟨rfl, rfl⟩
theorem at_norm4 : AttrOk (hd2.heap_39 w.params) 390 "next_variable" := ⟨rfl, rfl⟩
theorem at_norm5 : AttrOk (hd2.heap_39 w.params) 390 "work" := ⟨rfl, rfl⟩
theorem c_Norm {d : Nat} (hd : d + 2 = c.d) (sy il fr : V) (n : Int) (h : ∀ σ' x dx wk, σ x = none → Keep [] σ σ' → NoA σ' x dx wk sy il fr n [] → Q (.loc x) σ') :
   CF prog c 390 [sy, il, fr, .int n] ρ σ Q := by
  refine CF_cls (fI := 303) (d := d + 1) hd rfl rfl rfl fun c' x dx hd' hx hdx hne => ?_
  refine CF_K (names := ["self", "symbols", "inline", "fresh", "next_variable"]) (hl := rfl) (d := d) hd'.symm rfl rfl (all5 fun a b c d e => by kernel_rfl) rfl (by decide) (by decide) (by decide) rfl rfl rfl fun c' hd' he => ?_
  have k0 : Keep [dx] σ (upd (upd σ dx (.ns [])) x (.inst 390 dx)) := Keep.updNew (Keep.updIn (Keep.refl _ _) (.head _) _) ((upd_ne hne).trans hx) _
  have e0 : upd (upd σ dx (.ns [])) x (.inst 390 dx) x = some (.inst 390 dx) := upd_same _ _ _
  have e1 : upd (upd σ dx (.ns [])) x (.inst 390 dx) dx = some (.ns []) := (upd_ne (Ne.symm hne)).trans (upd_same _ _ _)
  generalize upd (upd σ dx (.ns [])) x (.inst 390 dx) = σ0 at k0 e0 e1
  have u : ∀ {τ : St} {fs : List (Str × V)}, τ x = some (.inst 390 dx) → upd τ dx (.ns fs) x = some (.inst 390 dx) := fun e => (upd_ne hne).trans e
  refine EX_cons (EX_Attr rfl (EV_local he rfl rfl rfl (EV_local he rfl rfl rfl ⟨x, 390, dx, _, rfl, e0, e1, cls_norm, at_norm1, by decide, ?_⟩)))
  refine EX_cons (EX_Attr rfl (EV_local he rfl rfl rfl (EV_local he rfl rfl rfl ⟨x, 390, dx, _, rfl, u e0, upd_same _ _ _, cls_norm, at_norm2, by simp [fset], ?_⟩)))
  rw [upd_upd]
  refine EX_cons (EX_Attr rfl (EV_local he rfl rfl rfl (EV_local he rfl rfl rfl ⟨x, 390, dx, _, rfl, u e0, upd_same _ _ _, cls_norm, at_norm3, Nat.le_of_ble_eq_true rfl, ?_⟩)))
  rw [upd_upd]
  refine EX_cons (EX_Attr rfl (EV_local he rfl rfl rfl (EV_local he rfl rfl rfl ⟨x, 390, dx, _, rfl, u e0, upd_same _ _ _, cls_norm, at_norm4, Nat.le_of_ble_eq_true rfl, ?_⟩)))
  rw [upd_upd]
  refine EX_cons (EX_Attr rfl (EV_List (EVs_nil ⟨by decide, fun wk hw => EV_local he rfl rfl rfl ⟨x, 390, dx, _, rfl, (upd_ne (neF (u e0) hw)).trans (u e0), (upd_ne (neF (upd_same _ _ _) hw)).trans (upd_same _ _ _), cls_norm, at_norm5, Nat.le_of_ble_eq_true rfl, ?_⟩⟩)))
  have hwd : wk ≠ dx := neF' (upd_same _ _ _) hw
  refine EX_nil ⟨rfl, h _ x dx wk hx (((k0.updIn (.head _) _).updNew hw _).updIn (.head _) _ |>.drop hdx) ⟨(upd_ne hne).trans ((upd_ne (neF (u e0) hw)).trans (u e0)), upd_same _ _ _, (upd_ne hwd).trans (upd_same _ _ _)⟩⟩
end
end RH
set_option Elab.async false
set_option maxRecDepth 100000
set_option maxHeartbeats 4000000
set_option linter.all false
namespace RH
open PySem PySem.W PySem.Calls PyProof.Rows
section
variable {prog : Program} {w : World} {c : Cx w (hd2.heap_39 w.params)} {ρ : Loc} {σ : St} {Q : V → St → Prop}
theorem c_coinsG {d : Nat} (hd : d + 1 = c.d) (hdd : 100 ≤ d) {x : Addr} {xs : List Int} (hz : xs.length ≤ 1000000) (hx : Given c x xs)
   (h : ∀ b cs σ', σ b = none → Keep [] σ σ' → σ' b = some (.list (intl cs)) → cs.length ≤ 1000 → Q (.loc b) σ') :
   CF prog c 408 [.loc x] ρ σ Q := by
  refine CF_Kh (names := ["script"]) (hl := rfl) hd rfl rfl (all1 fun a => by kernel_rfl) rfl (by decide) (by decide) (by decide) rfl rfl rfl fun c' hd' hk' he => ?_
  refine EX_cons (EX_Name he rfl rfl (EV_List (EVs_nil ⟨by decide, fun a ha => ?_⟩)))
  have hx' := hx.keep hk'
  refine EX_cons (EX_For he rfl (fun _ => rfl) (EV_UptoG (fun _ _ => rfl) (EV_local he rfl rfl rfl (EV_int ⟨x, intl xs, 60, rfl, hx'.at, by simp [intl]; exact hz, rfl, by decide, fun D hD => ?_⟩))))
  refine ⟨_, _, .list (upd_same _ _ _), ?_⟩
  have haD := neF (upd_same _ _ _) hD
  have hDx : σ D = none := (upd_ne (Ne.symm haD)).symm.trans hD
  refine FB_run (fun vs ρ σ' => Sub [("coins", .loc a)] ρ ∧ Keep [a] (upd (upd σ a (.list [])) D (.list ((intl xs).take 60))) σ' ∧ (∃ cs, σ' a = some (.list (intl cs)) ∧ cs.length ≤ 90) ∧ ∃ l, vs = intl l)
    (fun ρ σ' => Sub [("coins", .loc a)] ρ ∧ Keep [a] (upd (upd σ a (.list [])) D (.list ((intl xs).take 60))) σ' ∧ ∃ cs, σ' a = some (.list (intl cs)) ∧ cs.length ≤ 110) ?_ ?_ ?_ ⟨.cons rfl .nil, .refl _ _, ⟨[], (upd_ne haD).trans (upd_same _ _ _), by decide⟩, xs.take 60, by simp [intl]⟩
  · rintro v vs ρ₁ σ₁ ⟨hs, hk, ⟨cs, ha1, hcs⟩, l, hl⟩
    cases l with
    | nil => cases hl
    | cons i l =>
    cases hl
    refine EX.sub (ρ' := lset [("coins", .loc a)] "cell" (.int i)) (Sub.both hs) ?_
    refine EX_cons (EX_Name he rfl rfl (EV_bcall (x := "abs") he rfl rfl rfl rfl (by decide) rfl rfl rfl (EVs_cons rfl (EV_local he rfl rfl rfl (EVs_nil (OP_abs ?_))))))
    refine EX_cons (EX_For he rfl (fun _ => rfl) (EV_tcall (x := "range") he rfl rfl rfl rfl (by decide) rfl rfl rfl (EVs_cons rfl (EV_int (EVs_nil (OP_range fun r t u v hr => ?_))))))
    refine ⟨_, _, .range (n := 20) (by decide) (upd_same _ _ _), ?_⟩
    have har := neF ha1 hr
    refine FB_run (fun vs ρ σ' => Sub [("coins", .loc a)] ρ ∧ (∃ j, lget ρ "left" = some (.int j)) ∧ Keep [a] (upd (upd σ a (.list [])) D (.list ((intl xs).take 60))) σ' ∧ ∃ cs, σ' a = some (.list (intl cs)) ∧ cs.length + vs.length ≤ 110)
      (fun ρ σ' => Sub [("coins", .loc a)] ρ ∧ Keep [a] (upd (upd σ a (.list [])) D (.list ((intl xs).take 60))) σ' ∧ ∃ cs, σ' a = some (.list (intl cs)) ∧ cs.length ≤ 110) ?_ ?_ ?_
      ⟨.cons rfl .nil, ⟨_, rfl⟩, Keep.updNew hk hr _, cs, (upd_ne har).trans ha1, by simp [rangeV]; omega⟩
    · rintro v vs ρ₂ σ₂ ⟨hs, ⟨j, hj⟩, hk, cs, ha2, hcs⟩
      simp at hcs
      refine EX.sub (ρ' := [("coins", .loc a), ("left", .int j)]) (Sub.miss (.cons (hs _ _ rfl) (.cons hj .nil)) rfl) ?_
      refine EX_cons (EX_Expr rfl rfl (EV_append rfl rfl rfl rfl rfl (EV_local he rfl rfl rfl ⟨a, rfl, ⟨_, ha2⟩, EV_BinOp (EV_local he rfl rfl rfl (EV_int (OP_mod (by decide) ⟨_, ha2, by simp [intl]; omega, ?_⟩)))⟩)))
      refine EX_cons (EX_Name he rfl rfl (EV_BinOp (EV_local he rfl rfl rfl (EV_int (OP_fdiv (by decide) (PyProof.noPylong_small (by decide)) ?_)))))
      have e : intl cs ++ [V.int (j.fmod 1000)] = intl (cs ++ [j.fmod 1000]) := by simp [intl]
      rw [e]
      have hk3 := Keep.updIn hk (.head _) (.list (intl (cs ++ [j.fmod 1000])))
      refine EX_cons (EX_If (TR_Compare rfl (EV_local he rfl rfl rfl (EV_int (OP_eq ⟨_, rfl, ?_⟩)))))
      split
      · exact EX_cons (EX_Break ⟨rfl, .cons rfl .nil, hk3, _, upd_same _ _ _, by simp; omega⟩)
      · exact EX_nil (EX_nil ⟨trivial, .cons rfl .nil, ⟨_, rfl⟩, hk3, _, upd_same _ _ _, by simp; omega⟩)
    · rintro ρ σ' ⟨h1, _, h2, cs, h3, h4⟩
      exact ⟨h1, h2, cs, h3, h4⟩
    · rintro ρ₂ σ₂ ⟨hs, hk, cs, ha2, hcs⟩
      refine EX.sub hs ?_
      refine EX_cons (EX_If (TR_Compare rfl (EV_bcall (x := "len") he rfl rfl rfl rfl (by decide) rfl rfl rfl (EVs_cons rfl (EV_local he rfl rfl rfl (EVs_nil (OP_len_list ha2 (by simp [intl]; omega) (EV_int (OP_gt ⟨_, rfl, ?_⟩)))))))))
      split
      · exact EX_cons (EX_Break ⟨rfl, .cons rfl .nil, hk, cs, ha2, hcs⟩)
      · rename_i hn
        refine EX_nil (EX_nil ⟨hk D _ (upd_same _ _ _) (by simp [Ne.symm haD]), .cons rfl .nil, hk, ⟨cs, ha2, ?_⟩, l, rfl⟩)
        simp [intl] at hn
        omega
  · rintro ρ σ' ⟨h1, h2, ⟨cs, h3, h4⟩, _⟩
    exact ⟨h1, h2, cs, h3, by omega⟩
  · rintro ρ₂ σ₂ ⟨hs, hk, cs, ha2, hcs⟩
    refine EX.sub hs ?_
    refine EX_cons (EX_Expr rfl rfl (EV_reverse rfl rfl (EV_local he rfl rfl rfl ⟨a, _, rfl, ha2, by simp [intl]; omega, ?_⟩)))
    refine EX_cons (EX_Return (EV_local he rfl rfl rfl ?_))
    refine h a cs.reverse _ ha (Keep.drop (Keep.updIn (fun b o e n => hk b o ?_ n) (.head _) _) ha) ((upd_same _ _ _).trans (by simp [intl])) (by simp; omega)
    exact (Keep.updNew (Keep.updNew (Keep.refl [] σ) ha _) hD _) b o e (by simp)

end
end RH
set_option Elab.async false
set_option maxRecDepth 100000
set_option maxHeartbeats 4000000
set_option linter.all false
namespace RH
open PySem PySem.W PySem.Calls PyProof.Rows
@[irreducible] noncomputable def symS0 (w : World) : List Str × List (List Int) := symF (atomsB (bodyAt (hd2.heap_39 w.params) 28)) (rowsB (bodyAt (hd2.heap_39 w.params) 35))
noncomputable def symS1 (w : World) : List Str × List (List Int) := symStep (symS0 w) ("q", 1)
noncomputable def qN (w : World) : Int := (ix (symS1 w).2 [(ix (symS1 w).1 "q" : Nat), 1] : Nat)
theorem qN_beq (w : World) : (qN w == 32) = true := by kernel_rfl
theorem qN_val (w : World) : qN w = 32 := eq_of_beq (qN_beq w)
theorem symS0_len (w : World) : (symS0 w).1.length ≤ 1000 ∧ (symS0 w).2.length ≤ 1000 := ⟨Nat.le_of_ble_eq_true (by kernel_rfl), Nat.le_of_ble_eq_true (by kernel_rfl)⟩
theorem touch_idem {κ : Type} [DecidableEq κ] (l : List κ) (k : κ) : touch (touch l k) k = touch l k := by
  conv => lhs; unfold touch
  exact if_pos (touch_mem l k)
theorem symStep_idem (p : List Str × List (List Int)) (r : Str × Int) : symStep (symStep p r) r = symStep p r := by
  simp only [symStep, touch_idem]
theorem symS1_idem (w : World) : symStep (symS1 w) ("q", 1) = symS1 w := symStep_idem (symS0 w) ("q", 1)
theorem symStep_at (p : List Str × List (List Int)) (r : Str × Int) : touch (symStep p r).1 r.1 = (symStep p r).1 := touch_idem p.1 r.1
theorem symS1_at (w : World) : touch (symS1 w).1 "q" = (symS1 w).1 := symStep_at (symS0 w) ("q", 1)
theorem seqOf_loc' {σ : St} {a : Addr} {vs : List V} (h : σ a = some (.list vs)) : seqOf σ (.loc a) = some vs := by simp [seqOf, h]
structure SyQ (w : World) (σ : St) (x dx a1 a2 a3 a4 : Addr) : Prop where
  ex : ∃ S, (S = symS0 w ∨ S = symS1 w) ∧ SyA σ x dx a1 a2 a3 a4 S.1 S.2
theorem inA {σ : St} {a : Addr} {l : List Int} (ha : σ a = some (.list (intl l))) : ∀ b ∈ [a], (∃ l, σ b = some (.list (intl l))) ∨ (∃ u, σ b = some (.cell u)) ∨ σ b = none := by
  intro b hb
  simp at hb; subst hb
  exact .inl ⟨_, ha⟩
theorem SyQ.keep {w : World} {σ σ' : St} {x dx a1 a2 a3 a4 : Addr} {S : List Addr} (h : SyQ w σ x dx a1 a2 a3 a4) (k : Keep S σ σ') (n : ∀ a ∈ S, (∃ l, σ a = some (.list (intl l))) ∨ (∃ u, σ a = some (.cell u)) ∨ σ a = none) (n1 : a1 ∉ S) (n3 : a3 ∉ S) : SyQ w σ' x dx a1 a2 a3 a4 := by
  obtain ⟨S', hS, hA⟩ := h.ex
  refine ⟨S', hS, ⟨k _ _ hA.x ?_, k _ _ hA.ns ?_, k _ _ hA.o1 n1, k _ _ hA.o2 ?_, k _ _ hA.o3 n3, k _ _ hA.o4 ?_, hA.ne⟩⟩
  · intro m
    rcases n _ m with ⟨l, e⟩ | ⟨u, e⟩ | e <;> rw [hA.x] at e <;> cases e
  · intro m
    rcases n _ m with ⟨l, e⟩ | ⟨u, e⟩ | e <;> rw [hA.ns] at e <;> cases e
  · intro m
    rcases n _ m with ⟨l, e⟩ | ⟨u, e⟩ | e <;> rw [hA.o2] at e <;> cases e
  · intro m
    rcases n _ m with ⟨l, e⟩ | ⟨u, e⟩ | e <;> rw [hA.o4] at e <;> cases e
section
variable {prog : Program} {w : World} {c : Cx w (hd2.heap_39 w.params)} {ρ : Loc} {σ : St} {Q : V → St → Prop}
theorem c_funcQ {d : Nat} (hd : d + 2 = c.d) (hdd : 100 ≤ d) {x dx a1 a2 a3 a4 : Addr} (hA : SyQ w σ x dx a1 a2 a3 a4)
   (h : ∀ σ', Keep [a1, a2, a3, a4] σ σ' → SyQ w σ' x dx a1 a2 a3 a4 → Q (.int (qN w)) σ') : CF prog c 77 [.loc x, .str "q", .int 1] ρ σ Q := by
  obtain ⟨S, hS, hA⟩ := hA.ex
  obtain ⟨l1, l2⟩ := symS0_len w
  rcases hS with rfl | rfl
  · exact c_func hd hdd hA (by omega) (by omega) "q" 1 fun σ' k hA' => h σ' k ⟨symS1 w, .inr rfl, hA'⟩
  · refine c_func hd hdd hA (Nat.le_trans (touch_length _ _) (by omega)) (Nat.le_trans (touch_length _ _) (by omega)) "q" 1 fun σ' k hA' => ?_
    rw [show ((symS1 w).1, (symS1 w).2) = symS1 w from rfl] at hA' ⊢
    rw [symS1_idem] at hA' ⊢
    rw [symS1_at]
    exact h σ' k ⟨symS1 w, .inr rfl, hA'⟩
theorem c_part0 (n : Nat) (ih : ∀ m, m + 1 = n → ∀ {c : Cx w (hd2.heap_39 w.params)} {ρ : Loc} {σ : St} {Q : V → St → Prop} {d : Nat} (hd : d + 1 = c.d) (hdd : 110 + m ≤ d) {a : Addr} {cs : List Int} (hz : cs.length ≤ 1000000) (ha : σ a = some (.list (intl cs.reverse))) {x dx a1 a2 a3 a4 : Addr} (hA : SyQ w σ x dx a1 a2 a3 a4) (hn : a ≠ a1 ∧ a ≠ a3)
   (h : ∀ (t : Tm) (cs' : List Int) σ', t.ok m → Keep [a, a1, a2, a3, a4] σ σ' → σ' a = some (.list (intl cs'.reverse)) → cs'.length ≤ cs.length → SyQ w σ' x dx a1 a2 a3 a4 → Q (t.toV (qN w)) σ'),
   CF prog c 422 [.loc a, .loc x, .int m] ρ σ Q) {d : Nat} (hd : d + 1 = c.d) (hdd : 110 + n ≤ d) {a : Addr} {cs : List Int} (hz : cs.length ≤ 1000000) (ha : σ a = some (.list (intl cs.reverse))) {x dx a1 a2 a3 a4 : Addr} (hA : SyQ w σ x dx a1 a2 a3 a4) (hn : a ≠ a1 ∧ a ≠ a3)
   (h : ∀ (t : Tm) (cs' : List Int) σ', t.ok n → Keep [a, a1, a2, a3, a4] σ σ' → σ' a = some (.list (intl cs'.reverse)) → cs'.length ≤ cs.length → SyQ w σ' x dx a1 a2 a3 a4 → Q (t.toV (qN w)) σ') :
   CF prog c 422 [.loc a, .loc x, .int n] ρ σ Q := by
  refine CF_K (names := ["coins", "signs", "deep"]) (hl := rfl) (d := d) hd rfl rfl (all3 fun a b c => by kernel_rfl) rfl (by decide) (by decide) (by decide) rfl rfl rfl fun c' hd' he => ?_
  obtain ⟨e, rfl⟩ : ∃ e, d = e + 1 := ⟨d - 1, by omega⟩
  refine EX_cons ?_
  refine EX_Name he rfl rfl ?_
  refine EV_fcall (f := 415) he rfl rfl rfl rfl rfl rfl rfl ?_
  refine EVs_cons rfl ?_
  refine EV_local he rfl rfl rfl ?_
  refine EVs_cons rfl ?_
  refine EV.mono (Q := fun V σ' => ∃ sd : Int, V = .int sd ∧ (sd = 4 ∨ (sd = 8 ∧ 0 < n)) ∧ σ' = σ) ?_ ?_
  · refine EV_IfExp ?_
    refine TR_Compare rfl ?_
    refine EV_local he rfl rfl rfl ?_
    refine EV_int (OP_gt ⟨_, rfl, ?_⟩)
    split
    · exact EV_int ⟨8, rfl, .inr ⟨rfl, by simp_all⟩, rfl⟩
    · exact EV_int ⟨4, rfl, .inl rfl, rfl⟩
  rintro V σ' ⟨sd, rfl, hsd, rfl⟩
  have sd0 : 0 < sd := by omega
  refine EVs_nil ?_
  refine c_coin (d := e) hd'.symm (by omega) (by omega) hz ha fun σ1 k1 ha1 => ?_
  have hw0 := coin_ge cs sd0
  have hw1 := coin_lt cs sd0
  generalize coin cs sd = way at hw0 hw1
  have hA1 := hA.keep k1 (inA ha) (by simp; exact Ne.symm hn.1) (by simp; exact Ne.symm hn.2)
  have hkk : Keep [a, a1, a2, a3, a4] σ' σ1 := k1.wide (by simp)
  have hcs : cs.tail.length ≤ cs.length := tail_le _
  refine EX_cons (EX_If (TR_Compare rfl (EV_local he rfl rfl rfl (EV_int (OP_eq ⟨_, rfl, ?_⟩)))))
  split
  · -- q
    refine EX_cons ?_
    refine EX_Return ?_
    refine EV_Tuple ?_
    refine EVs_str ?_
    refine EVs_cons rfl ?_
    obtain ⟨S, hS, hA0⟩ := hA1.ex
    refine EV_meth rfl rfl rfl ?_
    refine EV_local he rfl rfl rfl ?_
    refine ⟨x, 122, dx, _, 77, rfl, hA0.x, hA0.ns, cls_sym, me_func, rfl, ?_⟩
    refine EVs_str ?_
    refine EVs_int ?_
    refine EVs_nil ⟨.inl rfl, ?_⟩
    obtain ⟨f, rfl⟩ : ∃ f, e = f + 1 := ⟨e - 1, by omega⟩
    refine c_funcQ (d := f) (by omega) (by omega) hA1 fun σ2 k2 hA2 => ?_
    have ha2 : σ2 a = some (.list (intl cs.tail.reverse)) := by
      obtain ⟨S, hS, hA0⟩ := hA1.ex
      refine k2 _ _ ha1 ?_
      simp
      refine ⟨hn.1, fun z => ?_, hn.2, fun z => ?_⟩
      · have := hA0.o2; rw [← z, ha1] at this; cases this
      · have := hA0.o4; rw [← z, ha1] at this; cases this
    refine EVs_cons rfl ?_
    refine EV_Tuple ?_
    refine EVs_cons rfl ?_
    refine EV_Tuple ?_
    refine EVs_str ?_
    refine EVs_cons rfl ?_
    refine EV_fcall (f := 415) he rfl rfl rfl rfl rfl rfl rfl ?_
    refine EVs_cons rfl ?_
    refine EV_local he rfl rfl rfl ?_
    refine EVs_int ?_
    refine EVs_nil ?_
    refine c_coin (d := f + 1) hd'.symm (by omega) (by decide) (by omega) ha2 fun σ3 k3 ha3 => ?_
    refine EVs_nil ⟨by simp, ?_⟩
    refine EVs_nil ⟨by simp, ?_⟩
    refine EVs_nil ⟨by simp, ?_⟩
    refine h (.q _) _ σ3 (by cases n <;> trivial) ((hkk.trans (k2.wide fun b hb => .tail _ hb)).trans (k3.wide (by simp))) ha3 (Nat.le_trans (tail_le _) (tail_le _)) (hA2.keep k3 (inA ha2) (by simp; exact Ne.symm hn.1) (by simp; exact Ne.symm hn.2))
  rename_i w0
  refine EX_nil (EX_cons (EX_If (TR_Compare rfl (EV_local he rfl rfl rfl (EV_int (OP_eq ⟨_, rfl, ?_⟩))))))
  split
  · refine EX_cons ?_
    refine EX_Return ?_
    refine EV_Tuple ?_
    refine EVs_str ?_
    refine EVs_cons rfl ?_
    refine EV_globInt he rfl rfl rfl ?_
    refine EVs_nil ⟨by simp, ?_⟩
    exact h .cut _ σ1 (by cases n <;> trivial) hkk ha1 (tail_le _) hA1
  rename_i w1
  refine EX_nil (EX_cons (EX_If (TR_Compare rfl (EV_local he rfl rfl rfl (EV_int (OP_eq ⟨_, rfl, ?_⟩))))))
  split
  · refine EX_cons ?_
    refine EX_Return ?_
    refine EV_Tuple ?_
    refine EVs_str ?_
    refine EVs_cons rfl ?_
    refine EV_fcall (f := 415) he rfl rfl rfl rfl rfl rfl rfl ?_
    refine EVs_cons rfl ?_
    refine EV_local he rfl rfl rfl ?_
    refine EVs_int ?_
    refine EVs_nil ?_
    refine c_coin (d := e) hd'.symm (by omega) (by decide) (by omega) ha1 fun σ3 k3 ha3 => ?_
    refine EVs_nil ⟨by simp, ?_⟩
    exact h (.v _) _ σ3 (by cases n <;> trivial) (hkk.trans (k3.wide (by simp))) ha3 (Nat.le_trans (tail_le _) (tail_le _)) (hA1.keep k3 (inA ha1) (by simp; exact Ne.symm hn.1) (by simp; exact Ne.symm hn.2))
  rename_i w2
  refine EX_nil (EX_cons (EX_If (TR_Compare rfl (EV_local he rfl rfl rfl (EV_int (OP_eq ⟨_, rfl, ?_⟩))))))
  split
  · refine EX_cons ?_
    refine EX_Return ?_
    refine EV_Tuple ?_
    refine EVs_str ?_
    refine EVs_cons rfl ?_
    refine EV_fcall (f := 415) he rfl rfl rfl rfl rfl rfl rfl ?_
    refine EVs_cons rfl ?_
    refine EV_local he rfl rfl rfl ?_
    refine EVs_int ?_
    refine EVs_nil ?_
    refine c_coin (d := e) hd'.symm (by omega) (by decide) (by omega) ha1 fun σ3 k3 ha3 => ?_
    refine EVs_nil ⟨by simp, ?_⟩
    exact h (.i _) _ σ3 (by cases n <;> trivial) (hkk.trans (k3.wide (by simp))) ha3 (Nat.le_trans (tail_le _) (tail_le _)) (hA1.keep k3 (inA ha1) (by simp; exact Ne.symm hn.1) (by simp; exact Ne.symm hn.2))
  rename_i w3
  refine EX_nil ?_
  simp only [beq_iff_eq] at w0 w1 w2 w3
  have hn0 : 0 < n := by omega
  obtain ⟨m, rfl⟩ : ∃ m, n = m + 1 := ⟨n - 1, by omega⟩
  refine EX_cons ?_
  refine EX_Name he rfl rfl ?_
  refine EV_fcall (f := 422) he rfl rfl rfl rfl rfl rfl rfl ?_
  refine EVs_cons rfl ?_
  refine EV_local he rfl rfl rfl ?_
  refine EVs_cons rfl ?_
  refine EV_local he rfl rfl rfl ?_
  refine EVs_cons rfl ?_
  refine EV_BinOp ?_
  refine EV_local he rfl rfl rfl ?_
  refine EV_int ?_
  refine OP_sub ?_
  rw [show (((m + 1 : Nat) : Int) - 1) = (m : Nat) by omega]
  refine EVs_nil ?_
  refine ih m rfl (d := e) hd'.symm (by omega) (by omega) ha1 hA1 hn fun l cs2 σ2 hl k2 ha2 hcs2 hA2 => ?_
  refine EX_cons (EX_If (TR_Compare rfl (EV_local he rfl rfl rfl (EV_int (OP_eq ⟨_, rfl, ?_⟩)))))
  split
  · refine EX_cons ?_
    refine EX_Return ?_
    refine EV_Tuple ?_
    refine EVs_str ?_
    refine EVs_cons rfl ?_
    refine EV_globInt he rfl rfl rfl ?_
    refine EVs_cons rfl ?_
    refine EV_Tuple ?_
    refine EVs_cons rfl ?_
    refine EV_local he rfl rfl rfl ?_
    refine EVs_nil ⟨by simp, ?_⟩
    refine EVs_nil ⟨by simp, ?_⟩
    exact h (.neg l) _ σ2 hl (hkk.trans k2) ha2 (by omega) hA2
  rename_i w4
  simp only [beq_iff_eq] at w4
  refine EX_nil ?_
  refine EX_cons ?_
  refine EX_Return ?_
  refine EV_Tuple ?_
  refine EVs_str ?_
  refine EVs_cons rfl ?_
  refine EV_Sub (fun _ _ => rfl) ?_
  refine EV_List ?_
  refine EVs_cons rfl ?_
  refine EV_globInt he rfl rfl rfl ?_
  refine EVs_cons rfl ?_
  refine EV_globInt he rfl rfl rfl ?_
  refine EVs_cons rfl ?_
  refine EV_globInt he rfl rfl rfl ?_
  refine EVs_nil ⟨by simp, fun b hb => ?_⟩
  refine EV_BinOp ?_
  refine EV_local he rfl rfl rfl ?_
  refine EV_int ?_
  refine OP_sub ?_
  obtain ⟨o, _, ho⟩ := vidx_map (fun o : Fin 3 => V.int (opI o)) [0, 1, 2] (k := way - 5) (by omega) (by simp; omega) (by omega)
  refine ⟨_, _, _, seqOf_loc' (upd_same _ _ _), rfl, ho, ?_⟩
  have kb : Keep [] σ2 (upd σ2 b (.list [.int 1, .int 2, .int 3])) := (Keep.refl _ _).updNew hb _
  have hab := kb _ _ ha2 (by simp)
  obtain ⟨S, hS, hA0⟩ := hA2.ex
  have hAb := hA2.keep kb (by simp) (by simp) (by simp)
  have kb' : Keep [a, a1, a2, a3, a4] σ' (upd σ2 b (.list [.int 1, .int 2, .int 3])) := (hkk.trans k2).trans (kb.wide (by simp))
  generalize upd σ2 b (.list [.int 1, .int 2, .int 3]) = σb at kb' hab hAb
  refine EVs_cons rfl ?_
  refine EV_Tuple ?_
  refine EVs_cons rfl ?_
  refine EV_local he rfl rfl rfl ?_
  refine EVs_cons rfl ?_
  refine EV_fcall (f := 422) he rfl rfl rfl rfl rfl rfl rfl ?_
  refine EVs_cons rfl ?_
  refine EV_local he rfl rfl rfl ?_
  refine EVs_cons rfl ?_
  refine EV_local he rfl rfl rfl ?_
  refine EVs_cons rfl ?_
  refine EV_BinOp ?_
  refine EV_local he rfl rfl rfl ?_
  refine EV_int ?_
  refine OP_sub ?_
  rw [show (((m + 1 : Nat) : Int) - 1) = (m : Nat) by omega]
  refine EVs_nil ?_
  refine ih m rfl (d := e) hd'.symm (by omega) (by omega) hab hAb hn fun r cs3 σ3 hr k3 ha3 hcs3 hA3 => ?_
  refine EVs_nil ⟨by simp, ?_⟩
  refine EVs_nil ⟨by simp, ?_⟩
  exact h (.bin o l r) _ σ3 ⟨hl, hr⟩ (kb'.trans k3) ha3 (by omega) hA3
theorem c_part (n : Nat) : ∀ {c : Cx w (hd2.heap_39 w.params)} {ρ : Loc} {σ : St} {Q : V → St → Prop} {d : Nat} (hd : d + 1 = c.d) (hdd : 110 + n ≤ d) {a : Addr} {cs : List Int} (hz : cs.length ≤ 1000000) (ha : σ a = some (.list (intl cs.reverse))) {x dx a1 a2 a3 a4 : Addr} (hA : SyQ w σ x dx a1 a2 a3 a4) (hn : a ≠ a1 ∧ a ≠ a3)
   (h : ∀ (t : Tm) (cs' : List Int) σ', t.ok n → Keep [a, a1, a2, a3, a4] σ σ' → σ' a = some (.list (intl cs'.reverse)) → cs'.length ≤ cs.length → SyQ w σ' x dx a1 a2 a3 a4 → Q (t.toV (qN w)) σ'),
   CF prog c 422 [.loc a, .loc x, .int n] ρ σ Q := by
  induction n with
  | zero => 
    intro c ρ σ Q d hd hdd a cs hz ha x dx a1 a2 a3 a4 hA hn h
    exact c_part0 0 (fun m hm => absurd hm (Nat.succ_ne_zero m)) hd hdd hz ha hA hn h
  | succ m ih =>
    intro c ρ σ Q d hd hdd a cs hz ha x dx a1 a2 a3 a4 hA hn h
    exact c_part0 (m + 1) (fun k hk => by obtain rfl : k = m := Nat.succ.inj hk; exact ih) hd hdd hz ha hA hn h
end
end RH
set_option Elab.async false
set_option maxRecDepth 100000
set_option maxHeartbeats 4000000
set_option linter.all false
namespace RH
open PySem PySem.W PySem.Calls PyProof.Rows
def szl (l : List Tm) : Nat := (l.map Tm.sz).sum
theorem szl_cons (t : Tm) (r : List Tm) : szl (t :: r) = t.sz + szl r := by simp [szl]
theorem sz_pos (t : Tm) : 1 ≤ t.sz := by cases t <;> simp [Tm.sz]
theorem len_szl : ∀ l : List Tm, l.length ≤ szl l
  | [] => Nat.zero_le _
  | t :: r => by
    have a := sz_pos t
    have b := len_szl r
    rw [szl_cons, List.length_cons]; omega
theorem push_rev (f : Tm → V) (t : Tm) (r : List Tm) : ((t :: r).map f).reverse = (r.map f).reverse ++ [f t] := by simp
theorem push_rev' (f : Tm → V) (t : Tm) (r : List Tm) : (r.map f).reverse ++ [f t] = ((t :: r).map f).reverse := by simp
section
variable {prog : Program} {w : World} {c : Cx w (hd2.heap_39 w.params)} {ρ : Loc} {σ : St} {Q : V → St → Prop}
theorem c_has_cut {d : Nat} (hd : d + 1 = c.d) (hdd : 100 ≤ d) {q : Int} (hq : q ≠ 1 ∧ q ≠ 2 ∧ q ≠ 3) {t : Tm} (hz : t.sz ≤ 900000)
   (h : ∀ σ', Keep [] σ σ' → Q (.bool t.cutS) σ') : CF prog c 268 [t.toV q] ρ σ Q := by
  refine CF_K (names := ["term"]) (hl := rfl) (d := d) hd rfl rfl (all1 fun a => by kernel_rfl) rfl (by decide) (by decide) (by decide) rfl rfl rfl fun c' hd' he => ?_
  refine EX_cons ?_
  refine EX_Name he rfl rfl ?_
  refine EV_List ?_
  refine EVs_cons rfl ?_
  refine EV_local he rfl rfl rfl ?_
  refine EVs_nil ⟨by simp, fun D hD => ?_⟩
  refine EX_cons ?_
  refine EX_While ?_
  show WH prog c' ?wt ?wb ?we _ _ ?wQ
  refine (fun (key : ∀ (m : Nat) {rs : List Tm} {ρ : Loc} {σ1 : St}, szl rs < m → szl rs ≤ 900000 → rs.any Tm.cutS = t.cutS → σ1 D = some (.list ((rs.map (Tm.toV q)).reverse)) → Sub [("stack", .loc D)] ρ → Keep [D] σ σ1 → WH prog c' ?wt ?wb ?we ρ σ1 ?wQ) => key _ (rs := [t]) (Nat.lt_succ_self _) (by simp [szl]; exact hz) (by simp) (upd_same _ _ _) (.cons rfl .nil) ((Keep.refl _ _).updIn (.head _) _)) ?_
  intro m
  induction m with
  | zero => intro rs ρ σ1 hm; omega
  | succ m ih =>
  intro rs ρ σ1 hm hz' hany hD1 hs k1
  refine WH.sub (ρ' := [("stack", .loc D)]) hs ?_
  have hlen := len_szl rs
  refine WH_step ?_
  refine TR_plain rfl ?_
  refine EV_local he rfl rfl rfl ?_
  refine OPb_list hD1 (by simp; omega) ?_
  cases rs with
  | nil =>
    rw [if_neg (by simp)]
    refine EX_cons ?_
    refine EX_Return ?_
    refine EV_bool ?_
    have r := h σ1 (k1.drop hD)
    rw [← hany] at r
    exact r
  | cons a r =>
    rw [if_pos (by simp)]
    rw [push_rev] at hD1
    rw [szl_cons] at hm hz'
    have ha1 := sz_pos a
    rw [List.length_cons] at hlen
    have hlr := len_szl r
    refine EX_cons ?_
    refine EX_Name he rfl rfl ?_
    refine EV_pop rfl rfl ?_
    refine EV_local he rfl rfl rfl ⟨D, _, _, rfl, hD1, by simp; omega, ?_⟩
    have hD2 : upd σ1 D (.list ((r.map (Tm.toV q)).reverse)) D = _ := upd_same _ _ _
    have k2 : Keep [D] σ (upd σ1 D (.list ((r.map (Tm.toV q)).reverse))) := k1.updIn (.head _) _
    generalize upd σ1 D (.list ((r.map (Tm.toV q)).reverse)) = σ2 at hD2 k2
    clear hD1 k1
    have skip : ∀ ρ', a.cutS = false → Sub [("stack", .loc D)] ρ' → WH prog c' ?wt ?wb ?we ρ' σ2 ?wQ := fun ρ' hc hs' => ih (rs := r) (by omega) (by omega) (by rw [← hany]; simp [hc]) hD2 hs' k2
    cases a with
    | cut =>
      refine EX_cons (EX_If (TR_Compare rfl (EV_Sub (fun _ _ => rfl) (EV_local he rfl rfl rfl (EV_int ⟨_, 0, .str "a", rfl, rfl, rfl, EV_str (OP_eqs ⟨_, rfl, ?_⟩)⟩)))))
      rw [if_pos (by decide)]
      refine EX_cons (EX_If (TR_Compare rfl (EV_Sub (fun _ _ => rfl) (EV_local he rfl rfl rfl (EV_int ⟨_, 1, .int 15, rfl, rfl, rfl, EV_globInt he rfl rfl rfl (OP_eq ⟨_, rfl, ?_⟩)⟩)))))
      rw [if_pos (by decide)]
      refine EX_cons ?_
      refine EX_Return ?_
      refine EV_bool ?_
      have r := h σ2 (k2.drop hD)
      rw [← hany] at r
      exact r
    | v k =>
      refine EX_cons (EX_If (TR_Compare rfl (EV_Sub (fun _ _ => rfl) (EV_local he rfl rfl rfl (EV_int ⟨_, 0, .str "v", rfl, rfl, rfl, EV_str (OP_eqs ⟨_, rfl, ?_⟩)⟩)))))
      rw [if_neg (by decide)]
      refine EX_cons (EX_If (TR_Compare rfl (EV_Sub (fun _ _ => rfl) (EV_local he rfl rfl rfl (EV_int ⟨_, 0, .str "v", rfl, rfl, rfl, EV_str (OP_eqs ⟨_, rfl, ?_⟩)⟩)))))
      rw [if_neg (by decide)]
      refine EX_nil ?_
      refine EX_nil ?_
      refine EX_nil ?_
      exact skip _ rfl (.cons rfl .nil)
    | i k =>
      refine EX_cons (EX_If (TR_Compare rfl (EV_Sub (fun _ _ => rfl) (EV_local he rfl rfl rfl (EV_int ⟨_, 0, .str "i", rfl, rfl, rfl, EV_str (OP_eqs ⟨_, rfl, ?_⟩)⟩)))))
      rw [if_neg (by decide)]
      refine EX_cons (EX_If (TR_Compare rfl (EV_Sub (fun _ _ => rfl) (EV_local he rfl rfl rfl (EV_int ⟨_, 0, .str "i", rfl, rfl, rfl, EV_str (OP_eqs ⟨_, rfl, ?_⟩)⟩)))))
      rw [if_neg (by decide)]
      refine EX_nil ?_
      refine EX_nil ?_
      refine EX_nil ?_
      exact skip _ rfl (.cons rfl .nil)
    | q k =>
      refine EX_cons (EX_If (TR_Compare rfl (EV_Sub (fun _ _ => rfl) (EV_local he rfl rfl rfl (EV_int ⟨_, 0, .str "s", rfl, rfl, rfl, EV_str (OP_eqs ⟨_, rfl, ?_⟩)⟩)))))
      rw [if_neg (by decide)]
      refine EX_cons (EX_If (TR_Compare rfl (EV_Sub (fun _ _ => rfl) (EV_local he rfl rfl rfl (EV_int ⟨_, 0, .str "s", rfl, rfl, rfl, EV_str (OP_eqs ⟨_, rfl, ?_⟩)⟩)))))
      rw [if_pos (by decide)]
      refine EX_cons ?_
      refine EX_If ?_
      refine TR_or ?_
      refine TR_Compare rfl (EV_Sub (fun _ _ => rfl) (EV_local he rfl rfl rfl (EV_int ⟨_, 1, .int q, rfl, rfl, rfl, EV_globInt he rfl rfl rfl (OP_eq ⟨_, rfl, ?_⟩)⟩)))
      rw [if_neg (by simpa using hq.1)]
      refine TR_or ?_
      refine TR_Compare rfl (EV_Sub (fun _ _ => rfl) (EV_local he rfl rfl rfl (EV_int ⟨_, 1, .int q, rfl, rfl, rfl, EV_globInt he rfl rfl rfl (OP_eq ⟨_, rfl, ?_⟩)⟩)))
      rw [if_neg (by simpa using hq.2.1)]
      refine TR_or0 ?_
      rw [if_neg (by decide)]
      refine EX_cons (EX_If (TR_Compare rfl (EV_Sub (fun _ _ => rfl) (EV_local he rfl rfl rfl (EV_int ⟨_, 1, .int q, rfl, rfl, rfl, EV_globInt he rfl rfl rfl (OP_eq ⟨_, rfl, ?_⟩)⟩)))))
      rw [if_neg (by simpa using hq.2.2)]
      refine EX_nil ?_
      refine EX_nil ?_
      refine EX_nil ?_
      refine EX_nil ?_
      refine EX_nil ?_
      exact skip _ rfl (.cons rfl .nil)
    | neg b =>
      refine EX_cons (EX_If (TR_Compare rfl (EV_Sub (fun _ _ => rfl) (EV_local he rfl rfl rfl (EV_int ⟨_, 0, .str "s", rfl, rfl, rfl, EV_str (OP_eqs ⟨_, rfl, ?_⟩)⟩)))))
      rw [if_neg (by decide)]
      refine EX_cons (EX_If (TR_Compare rfl (EV_Sub (fun _ _ => rfl) (EV_local he rfl rfl rfl (EV_int ⟨_, 0, .str "s", rfl, rfl, rfl, EV_str (OP_eqs ⟨_, rfl, ?_⟩)⟩)))))
      rw [if_pos (by decide)]
      refine EX_cons ?_
      refine EX_If ?_
      refine TR_or ?_
      refine TR_Compare rfl (EV_Sub (fun _ _ => rfl) (EV_local he rfl rfl rfl (EV_int ⟨_, 1, .int 4, rfl, rfl, rfl, EV_globInt he rfl rfl rfl (OP_eq ⟨_, rfl, ?_⟩)⟩)))
      rw [if_neg (by decide)]
      refine TR_or ?_
      refine TR_Compare rfl (EV_Sub (fun _ _ => rfl) (EV_local he rfl rfl rfl (EV_int ⟨_, 1, .int 4, rfl, rfl, rfl, EV_globInt he rfl rfl rfl (OP_eq ⟨_, rfl, ?_⟩)⟩)))
      rw [if_neg (by decide)]
      refine TR_or0 ?_
      rw [if_neg (by decide)]
      refine EX_cons (EX_If (TR_Compare rfl (EV_Sub (fun _ _ => rfl) (EV_local he rfl rfl rfl (EV_int ⟨_, 1, .int 4, rfl, rfl, rfl, EV_globInt he rfl rfl rfl (OP_eq ⟨_, rfl, ?_⟩)⟩)))))
      rw [if_neg (by decide)]
      refine EX_nil ?_
      refine EX_nil ?_
      refine EX_nil ?_
      refine EX_nil ?_
      refine EX_nil ?_
      exact skip _ rfl (.cons rfl .nil)
    | bin o b e =>
      refine EX_cons (EX_If (TR_Compare rfl (EV_Sub (fun _ _ => rfl) (EV_local he rfl rfl rfl (EV_int ⟨_, 0, .str "s", rfl, rfl, rfl, EV_str (OP_eqs ⟨_, rfl, ?_⟩)⟩)))))
      rw [if_neg (by decide)]
      refine EX_cons (EX_If (TR_Compare rfl (EV_Sub (fun _ _ => rfl) (EV_local he rfl rfl rfl (EV_int ⟨_, 0, .str "s", rfl, rfl, rfl, EV_str (OP_eqs ⟨_, rfl, ?_⟩)⟩)))))
      rw [if_pos (by decide)]
      have hsz : (Tm.bin o b e).sz = b.sz + e.sz + 1 := rfl
      rw [hsz] at hm hz'
      by_cases ho : o = 2
      · subst ho
        refine EX_cons ?_
        refine EX_If ?_
        refine TR_or ?_
        refine TR_Compare rfl (EV_Sub (fun _ _ => rfl) (EV_local he rfl rfl rfl (EV_int ⟨_, 1, .int 3, rfl, rfl, rfl, EV_globInt he rfl rfl rfl (OP_eq ⟨_, rfl, ?_⟩)⟩)))
        rw [if_neg (by decide)]
        refine TR_or ?_
        refine TR_Compare rfl (EV_Sub (fun _ _ => rfl) (EV_local he rfl rfl rfl (EV_int ⟨_, 1, .int 3, rfl, rfl, rfl, EV_globInt he rfl rfl rfl (OP_eq ⟨_, rfl, ?_⟩)⟩)))
        rw [if_neg (by decide)]
        refine TR_or0 ?_
        rw [if_neg (by decide)]
        refine EX_cons (EX_If (TR_Compare rfl (EV_Sub (fun _ _ => rfl) (EV_local he rfl rfl rfl (EV_int ⟨_, 1, .int 3, rfl, rfl, rfl, EV_globInt he rfl rfl rfl (OP_eq ⟨_, rfl, ?_⟩)⟩)))))
        rw [if_pos (by decide)]
        refine EX_cons ?_
        refine EX_Expr rfl rfl ?_
        refine EV_append rfl rfl rfl rfl rfl ?_
        refine EV_local he rfl rfl rfl ⟨D, rfl, ⟨_, hD2⟩, ?_⟩
        refine EV_Sub (fun _ _ => rfl) ?_
        refine EV_Sub (fun _ _ => rfl) ?_
        refine EV_local he rfl rfl rfl ?_
        refine EV_int ⟨_, 2, .tup [b.toV q, e.toV q], rfl, rfl, rfl, ?_⟩
        refine EV_int ⟨_, 1, e.toV q, rfl, rfl, rfl, ?_⟩
        refine ⟨_, hD2, by simp; omega, ?_⟩
        rw [push_rev']
        refine EX_nil ?_
        refine EX_nil ?_
        refine EX_nil ?_
        refine EX_nil ?_
        refine EX_nil ?_
        refine ih (rs := e :: r) (by rw [szl_cons]; omega) (by rw [szl_cons]; omega) ?_ (upd_same _ _ _) (.cons rfl .nil) (k2.updIn (.head _) _)
        rw [← hany]
        simp [Tm.cutS]
      · have ho' : o = 0 ∨ o = 1 := by
          have := o.isLt
          have h2 : o.val ≠ 2 := fun z => ho (Fin.ext z)
          have : o.val = 0 ∨ o.val = 1 := by omega
          exact this.elim (fun z => .inl (Fin.ext z)) fun z => .inr (Fin.ext z)
        have go : EX prog c' (execs ?wsem ?we) [("stack", .loc D), ("t", (Tm.bin o b e).toV q)] σ2 ?wend := ?_
        · refine EX_cons ?_
          refine EX_If ?_
          refine TR_or ?_
          rcases ho' with rfl | rfl
          · refine TR_Compare rfl (EV_Sub (fun _ _ => rfl) (EV_local he rfl rfl rfl (EV_int ⟨_, 1, .int 1, rfl, rfl, rfl, EV_globInt he rfl rfl rfl (OP_eq ⟨_, rfl, ?_⟩)⟩)))
            rw [if_pos (by decide)]
            rw [if_pos rfl]
            exact go
          · refine TR_Compare rfl (EV_Sub (fun _ _ => rfl) (EV_local he rfl rfl rfl (EV_int ⟨_, 1, .int 2, rfl, rfl, rfl, EV_globInt he rfl rfl rfl (OP_eq ⟨_, rfl, ?_⟩)⟩)))
            rw [if_neg (by decide)]
            refine TR_or ?_
            refine TR_Compare rfl (EV_Sub (fun _ _ => rfl) (EV_local he rfl rfl rfl (EV_int ⟨_, 1, .int 2, rfl, rfl, rfl, EV_globInt he rfl rfl rfl (OP_eq ⟨_, rfl, ?_⟩)⟩)))
            rw [if_pos (by decide)]
            rw [if_pos rfl]
            exact go
        · refine EX_cons ?_
          refine EX_Expr rfl rfl ?_
          refine EV_append rfl rfl rfl rfl rfl ?_
          refine EV_local he rfl rfl rfl ⟨D, rfl, ⟨_, hD2⟩, ?_⟩
          refine EV_Sub (fun _ _ => rfl) ?_
          refine EV_Sub (fun _ _ => rfl) ?_
          refine EV_local he rfl rfl rfl ?_
          refine EV_int ⟨_, 2, .tup [b.toV q, e.toV q], rfl, rfl, rfl, ?_⟩
          refine EV_int ⟨_, 0, b.toV q, rfl, rfl, rfl, ?_⟩
          refine ⟨_, hD2, by simp; omega, ?_⟩
          rw [push_rev']
          have hD3 : upd σ2 D (.list (((b :: r).map (Tm.toV q)).reverse)) D = _ := upd_same _ _ _
          have k3 : Keep [D] σ (upd σ2 D (.list (((b :: r).map (Tm.toV q)).reverse))) := k2.updIn (.head _) _
          generalize upd σ2 D (.list (((b :: r).map (Tm.toV q)).reverse)) = σ3 at hD3 k3
          refine EX_cons ?_
          refine EX_Expr rfl rfl ?_
          refine EV_append rfl rfl rfl rfl rfl ?_
          refine EV_local he rfl rfl rfl ⟨D, rfl, ⟨_, hD3⟩, ?_⟩
          refine EV_Sub (fun _ _ => rfl) ?_
          refine EV_Sub (fun _ _ => rfl) ?_
          refine EV_local he rfl rfl rfl ?_
          refine EV_int ⟨_, 2, .tup [b.toV q, e.toV q], rfl, rfl, rfl, ?_⟩
          refine EV_int ⟨_, 1, e.toV q, rfl, rfl, rfl, ?_⟩
          refine ⟨_, hD3, by simp; omega, ?_⟩
          rw [push_rev']
          refine EX_nil ?_
          refine EX_nil ?_
          refine EX_nil ?_
          refine EX_nil ?_
          refine ih (rs := e :: b :: r) (by rw [szl_cons, szl_cons]; omega) (by rw [szl_cons, szl_cons]; omega) ?_ (upd_same _ _ _) (.cons rfl .nil) (k3.updIn (.head _) _)
          rw [← hany]
          have hc : (Tm.bin o b e).cutS = (b.cutS || e.cutS) := if_neg ho
          rw [List.any_cons, List.any_cons, List.any_cons, hc]
          cases b.cutS <;> cases e.cutS <;> simp
end
end RH
set_option Elab.async false
set_option maxRecDepth 100000
set_option maxHeartbeats 4000000
set_option linter.all false
namespace RH
open PySem PySem.W PySem.Calls PyProof.Rows
theorem any_int (l : List Int) (i : Int) : ((l.map PyData.int).any fun y => PyData.eqv y (.int i)) = decide (i ∈ l) := by
  induction l with
  | nil => rfl
  | cons x r ih =>
    simp only [List.map_cons, List.any_cons, ih, PyData.eqv, List.mem_cons]
    by_cases q : x = i
    · subst q; simp
    · have q' : ¬ i = x := fun z => q z.symm
      simp [q, q']
theorem okD_int (i : Int) : okD (.int i) = true := by simp [okD, PyData.canLay0, PyData.depth]
theorem okD_list {ds : List PyData} {n : Nat} (h : PyData.canLayAll0 ds = true) (h2 : PyData.depthAll ds ≤ n) (h3 : n ≤ 900) : okD (.list ds) = true := by
  simp [okD, PyData.canLay0, PyData.depth, h]; omega
theorem okD_tup {ds : List PyData} {n : Nat} (h : PyData.canLayAll0 ds = true) (h2 : PyData.depthAll ds ≤ n) (h3 : n ≤ 900) : okD (.tuple ds) = true := by
  simp [okD, PyData.canLay0, PyData.depth, h]; omega
theorem eqv_ok {d : PyData} (h : okD d = true) : PyData.eqv d d = true := PySem.SeqAt.eqv_refl d (okD.lay h)
theorem OP_tuple_tup {prog : Program} {w : World} {K : Frag} {c : Cx w K} {ρ : Loc} {σ : St} {Q : V → St → Prop} {vs : List V} (h : Q (.tup vs) σ) : OPn prog c (fun vs => call (.type "tuple") vs) [.tup vs] ρ σ Q := fun s us S rs => by
  cases rs with | cons r rs => cases rs; cases r with | tup ht hv =>
    exact call_tuple_same ht ⟨_, σ, .tup ht hv, S, Go.refl _ _ _, h⟩
def semis : List V := [.int 2]
section
variable {prog : Program} {w : World} {c : Cx w (hd2.heap_39 w.params)} {ρ : Loc} {σ : St} {Q : V → St → Prop}
theorem c_struct {d : Nat} (hd : d + 1 = c.d) (f : Int) (vs : List V) (h : Q (.tup [.str "s", .int f, .tup vs]) σ) : CF prog c 140 [.int f, .tup vs] ρ σ Q := by
  refine CF_K (names := ["functor", "args"]) (hl := rfl) (d := d) hd rfl rfl (all2 fun a b => by kernel_rfl) rfl (by decide) (by decide) (by decide) rfl rfl rfl fun c' hd' he => ?_
  refine EX_cons ?_
  refine EX_Return ?_
  refine EV_Tuple ?_
  refine EVs_str ?_
  refine EVs_cons rfl ?_
  refine EV_local he rfl rfl rfl ?_
  refine EVs_cons rfl ?_
  refine EV_tcall (x := "tuple") he rfl rfl rfl rfl (by decide) rfl rfl rfl ?_
  refine EVs_cons rfl ?_
  refine EV_local he rfl rfl rfl ?_
  refine EVs_nil ?_
  refine OP_tuple_tup ?_
  refine EVs_nil ⟨by simp, ?_⟩
  exact h
theorem c_newvar {d : Nat} (hd : d + 1 = c.d) {m dm wk : Addr} {sy il fr : V} {n : Int} {ws : List V} (hN : NoA σ m dm wk sy il fr n ws)
   (h : ∀ σ', Keep [dm] σ σ' → NoA σ' m dm wk sy il fr (n + 1) ws → Q (.int n) σ') : CF prog c 310 [.loc m] ρ σ Q := by
  refine CF_K (names := ["self"]) (hl := rfl) (d := d) hd rfl rfl (all1 fun a => by kernel_rfl) rfl (by decide) (by decide) (by decide) rfl rfl rfl fun c' hd' he => ?_
  refine EX_cons ?_
  refine EX_Name he rfl rfl ?_
  refine EV_attr rfl ?_
  refine EV_local he rfl rfl rfl ⟨m, 390, dm, _, _, rfl, hN.x, hN.ns, cls_norm, at_norm4, rfl, ?_⟩
  refine EX_cons ?_
  refine EX_Attr rfl ?_
  refine EV_BinOp ?_
  refine EV_local he rfl rfl rfl ?_
  refine EV_int ?_
  refine OP_add ?_
  refine EV_local he rfl rfl rfl ⟨m, 390, dm, _, rfl, hN.x, hN.ns, cls_norm, at_norm4, Nat.le_of_ble_eq_true rfl, ?_⟩
  refine EX_cons ?_
  refine EX_Return ?_
  refine EV_local he rfl rfl rfl ?_
  have n1 : m ≠ dm := fun z => by have := hN.x; rw [z, hN.ns] at this; cases this
  have n2 : wk ≠ dm := fun z => by have := hN.wk; rw [z, hN.ns] at this; cases this
  exact h _ ((Keep.refl _ _).updIn (.head _) _) ⟨(upd_ne n1).trans hN.x, upd_same _ _ _, (upd_ne n2).trans hN.wk⟩
theorem inT3 {c' : Cx w (hd2.heap_39 w.params)} (hd : 100 ≤ c'.d) {i : Int} {Q : V → St → Prop} (h : Q (.bool (decide (i ∈ [1, 2, 3]))) σ) : OP2 prog c' (compareOp .In) (.int i) (.tup [.int 1, .int 2, .int 3]) ρ σ Q := by
  refine OP_inT (ys := intl [1, 2, 3]) (dys := [1, 2, 3].map PyData.int) hd (.int i) (VDs_intl _ _) (okD_int i) (lay_intl _) ?_
  rw [any_int]
  exact h
theorem c_is_body {d : Nat} (hd : d + 1 = c.d) (hdd : 100 ≤ d) {q : Int} (hq : q ≠ 1 ∧ q ≠ 2 ∧ q ≠ 3) {t : Tm} (hz : t.sz ≤ 900000)
   (h : ∀ σ', Keep [] σ σ' → Q (.bool (!t.numG)) σ') : CF prog c 247 [t.toV q] ρ σ Q := by
  refine CF_K (names := ["term"]) (hl := rfl) (d := d) hd rfl rfl (all1 fun a => by kernel_rfl) rfl (by decide) (by decide) (by decide) rfl rfl rfl fun c' hd' he => ?_
  refine EX_cons ?_
  refine EX_Name he rfl rfl ?_
  refine EV_List ?_
  refine EVs_cons rfl ?_
  refine EV_local he rfl rfl rfl ?_
  refine EVs_nil ⟨by simp, fun D hD => ?_⟩
  refine EX_cons ?_
  refine EX_While ?_
  show WH prog c' ?wt ?wb ?we _ _ ?wQ
  refine (fun (key : ∀ (m : Nat) {rs : List Tm} {ρ : Loc} {σ1 : St}, szl rs < m → szl rs ≤ 900000 → rs.any Tm.numG = t.numG → σ1 D = some (.list ((rs.map (Tm.toV q)).reverse)) → Sub [("stack", .loc D)] ρ → Keep [D] σ σ1 → WH prog c' ?wt ?wb ?we ρ σ1 ?wQ) => key _ (rs := [t]) (Nat.lt_succ_self _) (by simp [szl]; exact hz) (by simp) (upd_same _ _ _) (.cons rfl .nil) ((Keep.refl _ _).updIn (.head _) _)) ?_
  intro m
  induction m with
  | zero => intro rs ρ σ1 hm; omega
  | succ m ih =>
  intro rs ρ σ1 hm hz' hany hD1 hs k1
  refine WH.sub (ρ' := [("stack", .loc D)]) hs ?_
  have hlen := len_szl rs
  refine WH_step ?_
  refine TR_plain rfl ?_
  refine EV_local he rfl rfl rfl ?_
  refine OPb_list hD1 (by simp; omega) ?_
  cases rs with
  | nil =>
    rw [if_neg (by simp)]
    refine EX_cons ?_
    refine EX_Return ?_
    refine EV_bool ?_
    have r := h σ1 (k1.drop hD)
    rw [← hany] at r
    exact r
  | cons a r =>
    rw [if_pos (by simp)]
    rw [push_rev] at hD1
    rw [szl_cons] at hm hz'
    have ha1 := sz_pos a
    rw [List.length_cons] at hlen
    have hlr := len_szl r
    refine EX_cons ?_
    refine EX_Name he rfl rfl ?_
    refine EV_pop rfl rfl ?_
    refine EV_local he rfl rfl rfl ⟨D, _, _, rfl, hD1, by simp; omega, ?_⟩
    have hD2 : upd σ1 D (.list ((r.map (Tm.toV q)).reverse)) D = _ := upd_same _ _ _
    have k2 : Keep [D] σ (upd σ1 D (.list ((r.map (Tm.toV q)).reverse))) := k1.updIn (.head _) _
    generalize upd σ1 D (.list ((r.map (Tm.toV q)).reverse)) = σ2 at hD2 k2
    clear hD1 k1
    have skip : ∀ ρ', a.numG = false → Sub [("stack", .loc D)] ρ' → WH prog c' ?wt ?wb ?we ρ' σ2 ?wQ := fun ρ' hc hs' => ih (rs := r) (by omega) (by omega) (by rw [← hany]; simp [hc]) hD2 hs' k2
    have other : ∀ (b : Str) (vs : List V), a.toV q = .tup (.str b :: vs) → (b == ("i" : Str)) = false → (b == ("s" : Str)) = false → a.numG = false → EX prog c' (execs ?wb1 ?we) [("stack", .loc D), ("t", a.toV q)] σ2 ?wE := ?_
    · cases a with
      | i k =>
        refine EX_cons (EX_If (TR_Compare rfl (EV_Sub (fun _ _ => rfl) (EV_local he rfl rfl rfl (EV_int ⟨_, 0, .str "i", rfl, rfl, rfl, EV_str (OP_eqs ⟨_, rfl, ?_⟩)⟩)))))
        rw [if_pos (by decide)]
        refine EX_cons ?_
        refine EX_Return ?_
        refine EV_bool ?_
        have r := h σ2 (k2.drop hD)
        rw [← hany] at r
        exact r
      | cut => exact other "a" _ rfl (by decide) (by decide) rfl
      | v k => exact other "v" _ rfl (by decide) (by decide) rfl
      | q k =>
        refine EX_cons (EX_If (TR_Compare rfl (EV_Sub (fun _ _ => rfl) (EV_local he rfl rfl rfl (EV_int ⟨_, 0, .str "s", rfl, rfl, rfl, EV_str (OP_eqs ⟨_, rfl, ?_⟩)⟩)))))
        rw [if_neg (by decide)]
        refine EX_nil ?_
        refine EX_cons ?_
        refine EX_If ?_
        refine TR_and ?_
        refine TR_Compare rfl (EV_Sub (fun _ _ => rfl) (EV_local he rfl rfl rfl (EV_int ⟨_, 0, .str "s", rfl, rfl, rfl, EV_str (OP_eqs ⟨_, rfl, ?_⟩)⟩)))
        rw [if_pos (by decide)]
        refine TR_and ?_
        refine TR_Compare rfl ?_
        refine EV_Sub (fun _ _ => rfl) ?_
        refine EV_local he rfl rfl rfl ?_
        refine EV_int ⟨_, 1, .int q, rfl, rfl, rfl, ?_⟩
        refine EV_Tuple ?_
        refine EVs_cons rfl ?_
        refine EV_globInt he rfl rfl rfl ?_
        refine EVs_cons rfl ?_
        refine EV_globInt he rfl rfl rfl ?_
        refine EVs_cons rfl ?_
        refine EV_globInt he rfl rfl rfl ?_
        refine EVs_nil ⟨by simp, ?_⟩
        refine inT3 (by omega) ⟨_, rfl, ?_⟩
        rw [if_neg (by simp; exact hq)]
        rw [if_neg (by decide)]
        refine EX_nil ?_
        refine EX_nil ?_
        exact skip _ rfl (.cons rfl .nil)
      | neg b =>
        refine EX_cons (EX_If (TR_Compare rfl (EV_Sub (fun _ _ => rfl) (EV_local he rfl rfl rfl (EV_int ⟨_, 0, .str "s", rfl, rfl, rfl, EV_str (OP_eqs ⟨_, rfl, ?_⟩)⟩)))))
        rw [if_neg (by decide)]
        refine EX_nil ?_
        refine EX_cons ?_
        refine EX_If ?_
        refine TR_and ?_
        refine TR_Compare rfl (EV_Sub (fun _ _ => rfl) (EV_local he rfl rfl rfl (EV_int ⟨_, 0, .str "s", rfl, rfl, rfl, EV_str (OP_eqs ⟨_, rfl, ?_⟩)⟩)))
        rw [if_pos (by decide)]
        refine TR_and ?_
        refine TR_Compare rfl ?_
        refine EV_Sub (fun _ _ => rfl) ?_
        refine EV_local he rfl rfl rfl ?_
        refine EV_int ⟨_, 1, .int 4, rfl, rfl, rfl, ?_⟩
        refine EV_Tuple ?_
        refine EVs_cons rfl ?_
        refine EV_globInt he rfl rfl rfl ?_
        refine EVs_cons rfl ?_
        refine EV_globInt he rfl rfl rfl ?_
        refine EVs_cons rfl ?_
        refine EV_globInt he rfl rfl rfl ?_
        refine EVs_nil ⟨by simp, ?_⟩
        refine inT3 (by omega) ⟨_, rfl, ?_⟩
        rw [if_neg (by decide)]
        rw [if_neg (by decide)]
        refine EX_nil ?_
        refine EX_nil ?_
        exact skip _ rfl (.cons rfl .nil)
      | bin o b e =>
        have hsz : (Tm.bin o b e).sz = b.sz + e.sz + 1 := rfl
        rw [hsz] at hm hz'
        refine EX_cons (EX_If (TR_Compare rfl (EV_Sub (fun _ _ => rfl) (EV_local he rfl rfl rfl (EV_int ⟨_, 0, .str "s", rfl, rfl, rfl, EV_str (OP_eqs ⟨_, rfl, ?_⟩)⟩)))))
        rw [if_neg (by decide)]
        refine EX_nil ?_
        refine EX_cons ?_
        refine EX_If ?_
        refine TR_and ?_
        refine TR_Compare rfl (EV_Sub (fun _ _ => rfl) (EV_local he rfl rfl rfl (EV_int ⟨_, 0, .str "s", rfl, rfl, rfl, EV_str (OP_eqs ⟨_, rfl, ?_⟩)⟩)))
        rw [if_pos (by decide)]
        refine TR_and ?_
        refine TR_Compare rfl ?_
        refine EV_Sub (fun _ _ => rfl) ?_
        refine EV_local he rfl rfl rfl ?_
        refine EV_int ⟨_, 1, .int (opI o), rfl, rfl, rfl, ?_⟩
        refine EV_Tuple ?_
        refine EVs_cons rfl ?_
        refine EV_globInt he rfl rfl rfl ?_
        refine EVs_cons rfl ?_
        refine EV_globInt he rfl rfl rfl ?_
        refine EVs_cons rfl ?_
        refine EV_globInt he rfl rfl rfl ?_
        refine EVs_nil ⟨by simp, ?_⟩
        refine inT3 (by omega) ⟨_, rfl, ?_⟩
        rw [if_pos (by unfold opI; split; decide; split <;> decide)]
        refine TR_and0 ?_
        rw [if_pos rfl]
        refine EX_cons ?_
        refine EX_Expr rfl rfl ?_
        refine EV_append rfl rfl rfl rfl rfl ?_
        refine EV_local he rfl rfl rfl ⟨D, rfl, ⟨_, hD2⟩, ?_⟩
        refine EV_Sub (fun _ _ => rfl) ?_
        refine EV_Sub (fun _ _ => rfl) ?_
        refine EV_local he rfl rfl rfl ?_
        refine EV_int ⟨_, 2, .tup [b.toV q, e.toV q], rfl, rfl, rfl, ?_⟩
        refine EV_int ⟨_, 1, e.toV q, rfl, rfl, rfl, ?_⟩
        refine ⟨_, hD2, by simp; omega, ?_⟩
        rw [push_rev']
        have hD3 : upd σ2 D (.list (((e :: r).map (Tm.toV q)).reverse)) D = _ := upd_same _ _ _
        have k3 : Keep [D] σ (upd σ2 D (.list (((e :: r).map (Tm.toV q)).reverse))) := k2.updIn (.head _) _
        generalize upd σ2 D (.list (((e :: r).map (Tm.toV q)).reverse)) = σ3 at hD3 k3
        refine EX_cons ?_
        refine EX_Expr rfl rfl ?_
        refine EV_append rfl rfl rfl rfl rfl ?_
        refine EV_local he rfl rfl rfl ⟨D, rfl, ⟨_, hD3⟩, ?_⟩
        refine EV_Sub (fun _ _ => rfl) ?_
        refine EV_Sub (fun _ _ => rfl) ?_
        refine EV_local he rfl rfl rfl ?_
        refine EV_int ⟨_, 2, .tup [b.toV q, e.toV q], rfl, rfl, rfl, ?_⟩
        refine EV_int ⟨_, 0, b.toV q, rfl, rfl, rfl, ?_⟩
        refine ⟨_, hD3, by simp; omega, ?_⟩
        rw [push_rev']
        refine EX_nil ?_
        refine EX_nil ?_
        refine ih (rs := b :: e :: r) (by rw [szl_cons, szl_cons]; omega) (by rw [szl_cons, szl_cons]; omega) ?_ (upd_same _ _ _) (.cons rfl .nil) (k3.updIn (.head _) _)
        rw [← hany]
        have hc : (Tm.bin o b e).numG = (b.numG || e.numG) := rfl
        rw [List.any_cons, List.any_cons, List.any_cons, hc]
        cases b.numG <;> cases e.numG <;> simp
    · intro b vs hb b1 b2 b3
      rw [hb]
      refine EX_cons (EX_If (TR_Compare rfl (EV_Sub (fun _ _ => rfl) (EV_local he rfl rfl rfl (EV_int ⟨_, 0, .str b, rfl, rfl, rfl, EV_str (OP_eqs ⟨_, rfl, ?_⟩)⟩)))))
      rw [b1, if_neg (by decide)]
      refine EX_nil ?_
      refine EX_cons ?_
      refine EX_If ?_
      refine TR_and ?_
      refine TR_Compare rfl (EV_Sub (fun _ _ => rfl) (EV_local he rfl rfl rfl (EV_int ⟨_, 0, .str b, rfl, rfl, rfl, EV_str (OP_eqs ⟨_, rfl, ?_⟩)⟩)))
      rw [b2, if_neg (by decide)]
      rw [if_neg (by decide)]
      refine EX_nil ?_
      refine EX_nil ?_
      exact skip _ b3 (.cons rfl .nil)
end
end RH
set_option Elab.async false
set_option maxRecDepth 100000
set_option maxHeartbeats 4000000
set_option linter.all false
namespace RH
open PySem PySem.W PySem.Calls PyProof.Rows
theorem spine_no {t : Tm} (h : ∀ l r, t ≠ .bin 1 l r) : t.spine = [t] := by
  cases t with
  | bin o l r =>
    unfold Tm.spine
    rw [if_neg]
    rintro rfl
    exact h _ _ rfl
  | _ => rfl
theorem spine_len : ∀ t : Tm, t.spine.length ≤ t.sz
  | .q _ => Nat.le_refl _
  | .cut => Nat.le_refl _
  | .v _ => Nat.le_refl _
  | .i _ => Nat.le_refl _
  | .neg _ => by simp [Tm.spine, Tm.sz]
  | .bin o l r => by
    have := spine_len r
    have := sz_pos l
    unfold Tm.spine
    split <;> simp [Tm.sz] <;> omega
theorem opI_ne {o : Fin 3} (h : o ≠ 1) : ¬ (decide (opI o ∈ [2]) = true) := by revert h; revert o; decide
/-- a test, its mark ahead -/
def testV (q n : Int) (t : Tm) : List V := if t.cutS then [.tup [.str "mark", .int n], .tup [.str "body", t.toV q, .int n]] else [.tup [.str "body", t.toV q, .int (-1)]]
def testN (n : Int) (t : Tm) : Int := if t.cutS then n + 1 else n
section
variable {prog : Program} {w : World} {c : Cx w (hd2.heap_39 w.params)} {ρ : Loc} {σ : St} {Q : V → St → Prop}
theorem c_spine {d : Nat} (hd : d + 1 = c.d) (hdd : 100 ≤ d) {q : Int} (hq : q ≠ 1 ∧ q ≠ 2 ∧ q ≠ 3) {t : Tm} (hz : t.sz ≤ 900000)
   (h : ∀ σ' D, σ D = none → Keep [] σ σ' → σ' D = some (.list (t.spine.map (Tm.toV q))) → Q (.loc D) σ') : CF prog c 254 [t.toV q, .tup [.int 2]] ρ σ Q := by
  refine CF_K (names := ["term", "functors"]) (hl := rfl) (d := d) hd rfl rfl (all2 fun a b => by kernel_rfl) rfl (by decide) (by decide) (by decide) rfl rfl rfl fun c' hd' he => ?_
  refine EX_cons ?_
  refine EX_Name he rfl rfl ?_
  refine EV_List ?_
  refine EVs_nil ⟨by simp, fun D hD => ?_⟩
  refine EX_cons ?_
  refine EX_While ?_
  show WH prog c' ?wt ?wb ?we _ _ ?wQ
  refine (fun (key : ∀ (m : Nat) {u : Tm} {pre : List Tm} {ρ : Loc} {σ1 : St}, u.sz < m → pre.length + u.sz ≤ 900000 → pre ++ u.spine = t.spine → σ1 D = some (.list (pre.map (Tm.toV q))) → Sub [("parts", .loc D), ("term", u.toV q), ("functors", .tup [.int 2])] ρ → Keep [D] σ σ1 → WH prog c' ?wt ?wb ?we ρ σ1 ?wQ) => key _ (u := t) (pre := []) (Nat.lt_succ_self _) (by simp; exact hz) rfl (upd_same _ _ _) (.cons rfl (.cons rfl (.cons rfl .nil))) ((Keep.refl _ _).updIn (.head _) _)) ?_
  intro m
  induction m with
  | zero => intro u pre ρ σ1 hm; omega
  | succ m ih =>
  intro u pre ρ σ1 hm hz' hsp hD1 hs k1
  refine WH.sub (ρ' := [("parts", .loc D), ("term", u.toV q), ("functors", .tup [.int 2])]) hs ?_
  refine WH_step ?_
  refine TR_and ?_
  have fin : u.spine = [u] → thenX prog c' ?we ?wrest (fun fl x σ' => Q (retV fl) σ') .next [("parts", .loc D), ("term", u.toV q), ("functors", .tup [.int 2])] σ1 := ?_
  · cases u with
    | cut =>
      refine TR_Compare rfl (EV_Sub (fun _ _ => rfl) (EV_local he rfl rfl rfl (EV_int ⟨_, 0, .str "a", rfl, rfl, rfl, EV_str (OP_eqs ⟨_, rfl, ?_⟩)⟩)))
      rw [if_neg (by decide)]
      rw [if_neg (by decide)]
      exact fin rfl
    | v k =>
      refine TR_Compare rfl (EV_Sub (fun _ _ => rfl) (EV_local he rfl rfl rfl (EV_int ⟨_, 0, .str "v", rfl, rfl, rfl, EV_str (OP_eqs ⟨_, rfl, ?_⟩)⟩)))
      rw [if_neg (by decide)]
      rw [if_neg (by decide)]
      exact fin rfl
    | i k =>
      refine TR_Compare rfl (EV_Sub (fun _ _ => rfl) (EV_local he rfl rfl rfl (EV_int ⟨_, 0, .str "i", rfl, rfl, rfl, EV_str (OP_eqs ⟨_, rfl, ?_⟩)⟩)))
      rw [if_neg (by decide)]
      rw [if_neg (by decide)]
      exact fin rfl
    | q k =>
      refine TR_Compare rfl (EV_Sub (fun _ _ => rfl) (EV_local he rfl rfl rfl (EV_int ⟨_, 0, .str "s", rfl, rfl, rfl, EV_str (OP_eqs ⟨_, rfl, ?_⟩)⟩)))
      rw [if_pos (by decide)]
      refine TR_and ?_
      refine TR_Compare rfl ?_
      refine EV_Sub (fun _ _ => rfl) ?_
      refine EV_local he rfl rfl rfl ?_
      refine EV_int ⟨_, 1, .int q, rfl, rfl, rfl, ?_⟩
      refine EV_local he rfl rfl rfl ?_
      refine OP_inT (ys := intl [2]) (dys := [2].map PyData.int) (by omega) (.int q) (VDs_intl _ _) (okD_int q) (lay_intl _) ⟨_, rfl, ?_⟩
      rw [any_int, if_neg (by simp; exact hq.2.1)]
      rw [if_neg (by decide)]
      exact fin rfl
    | neg b =>
      refine TR_Compare rfl (EV_Sub (fun _ _ => rfl) (EV_local he rfl rfl rfl (EV_int ⟨_, 0, .str "s", rfl, rfl, rfl, EV_str (OP_eqs ⟨_, rfl, ?_⟩)⟩)))
      rw [if_pos (by decide)]
      refine TR_and ?_
      refine TR_Compare rfl ?_
      refine EV_Sub (fun _ _ => rfl) ?_
      refine EV_local he rfl rfl rfl ?_
      refine EV_int ⟨_, 1, .int 4, rfl, rfl, rfl, ?_⟩
      refine EV_local he rfl rfl rfl ?_
      refine OP_inT (ys := intl [2]) (dys := [2].map PyData.int) (by omega) (.int 4) (VDs_intl _ _) (okD_int 4) (lay_intl _) ⟨_, rfl, ?_⟩
      rw [any_int, if_neg (by decide)]
      rw [if_neg (by decide)]
      exact fin rfl
    | bin o b e =>
      have hsz : (Tm.bin o b e).sz = b.sz + e.sz + 1 := rfl
      rw [hsz] at hm hz'
      refine TR_Compare rfl (EV_Sub (fun _ _ => rfl) (EV_local he rfl rfl rfl (EV_int ⟨_, 0, .str "s", rfl, rfl, rfl, EV_str (OP_eqs ⟨_, rfl, ?_⟩)⟩)))
      rw [if_pos (by decide)]
      refine TR_and ?_
      refine TR_Compare rfl ?_
      refine EV_Sub (fun _ _ => rfl) ?_
      refine EV_local he rfl rfl rfl ?_
      refine EV_int ⟨_, 1, .int (opI o), rfl, rfl, rfl, ?_⟩
      refine EV_local he rfl rfl rfl ?_
      refine OP_inT (ys := intl [2]) (dys := [2].map PyData.int) (by omega) (.int (opI o)) (VDs_intl _ _) (okD_int _) (lay_intl _) ⟨_, rfl, ?_⟩
      rw [any_int]
      by_cases ho : o = 1
      · subst ho
        rw [if_pos (by decide)]
        refine TR_and0 ?_
        rw [if_pos rfl]
        refine EX_cons ?_
        refine EX_Expr rfl rfl ?_
        refine EV_append rfl rfl rfl rfl rfl ?_
        refine EV_local he rfl rfl rfl ⟨D, rfl, ⟨_, hD1⟩, ?_⟩
        refine EV_Sub (fun _ _ => rfl) ?_
        refine EV_Sub (fun _ _ => rfl) ?_
        refine EV_local he rfl rfl rfl ?_
        refine EV_int ⟨_, 2, .tup [b.toV q, e.toV q], rfl, rfl, rfl, ?_⟩
        refine EV_int ⟨_, 0, b.toV q, rfl, rfl, rfl, ?_⟩
        refine ⟨_, hD1, by simp; omega, ?_⟩
        refine EX_cons ?_
        refine EX_Name he rfl rfl ?_
        refine EV_Sub (fun _ _ => rfl) ?_
        refine EV_Sub (fun _ _ => rfl) ?_
        refine EV_local he rfl rfl rfl ?_
        refine EV_int ⟨_, 2, .tup [b.toV q, e.toV q], rfl, rfl, rfl, ?_⟩
        refine EV_int ⟨_, 1, e.toV q, rfl, rfl, rfl, ?_⟩
        refine EX_nil ?_
        refine ih (u := e) (pre := pre ++ [b]) (by omega) (by simp; have := sz_pos b; omega) ?_ ((upd_same _ _ _).trans (by simp)) (.cons rfl (.cons rfl (.cons rfl .nil))) (k1.updIn (.head _) _)
        rw [← hsp]
        simp [Tm.spine]
      · rw [if_neg (opI_ne ho)]
        rw [if_neg (by decide)]
        exact fin (spine_no (by rintro l r e; cases e; exact ho rfl))
  · intro hu
    refine EX_cons ?_
    refine EX_Expr rfl rfl ?_
    refine EV_append rfl rfl rfl rfl rfl ?_
    refine EV_local he rfl rfl rfl ⟨D, rfl, ⟨_, hD1⟩, ?_⟩
    refine EV_local he rfl rfl rfl ?_
    refine ⟨_, hD1, by simp; omega, ?_⟩
    refine EX_cons ?_
    refine EX_Return ?_
    refine EV_local he rfl rfl rfl ?_
    refine h _ D hD ((k1.updIn (.head _) _).drop hD) ((upd_same _ _ _).trans ?_)
    rw [← hsp, hu]
    simp
end
end RH
set_option Elab.async false
set_option maxRecDepth 100000
set_option maxHeartbeats 4000000
set_option linter.all false
namespace RH
open PySem PySem.W PySem.Calls PyProof.Rows
def ownV : V := .tup [.str "own"]
def bodyV (q : Int) (t : Tm) (k : Int) : V := .tup [.str "body", t.toV q, .int k]
def itemsV (q tg n : Int) : Tm → List V
  | .bin o l r => if o = 2 then testV q n l ++ [ownV, bodyV q r tg] else [bodyV q (.bin o l r) tg]
  | p => [bodyV q p tg]
def markN (n : Int) : Tm → Int
  | .bin o l r => if o = 2 then testN n l else n
  | _ => n
def bodsV (q tg : Int) : Int → List Tm → List (List V)
  | _, [] => []
  | n, p :: ps => itemsV q tg n p :: bodsV q tg (markN n p) ps
def endN (n : Int) (ps : List Tm) : Int := ps.foldl markN n
theorem bods_len (q tg : Int) : ∀ (n : Int) (ps : List Tm), (bodsV q tg n ps).length = ps.length
  | n, [] => rfl
  | n, p :: ps => by simp [bodsV, bods_len q tg _ ps]
/-- lists of lists -/
inductive Rows (σ : St) (B : Addr) : List V → List (List V) → Prop
  | nil : Rows σ B [] []
  | cons {D : Addr} {vs : List V} {it : List V} {its : List (List V)} : σ D = some (.list it) → D ≠ B → Rows σ B vs its → Rows σ B (.loc D :: vs) (it :: its)
theorem Rows.keep {σ σ' : St} {B : Addr} {S : List Addr} (k : Keep S σ σ') (n : ∀ a ∈ S, a = B ∨ (∀ l, σ a ≠ some (.list l))) : ∀ {vs : List V} {its : List (List V)}, Rows σ B vs its → Rows σ' B vs its
  | _, _, .nil => .nil
  | _, _, .cons h1 h2 r => .cons (k _ _ h1 fun m => by
      rcases n _ m with z | z
      · exact h2 z
      · exact z _ h1) h2 (Rows.keep k n r)
theorem Rows.snoc {σ : St} {B D : Addr} {it : List V} (h : σ D = some (.list it)) (hn : D ≠ B) : ∀ {vs : List V} {its : List (List V)}, Rows σ B vs its → Rows σ B (vs ++ [.loc D]) (its ++ [it])
  | _, _, .nil => .cons h hn .nil
  | _, _, .cons h1 h2 r => .cons h1 h2 (Rows.snoc h hn r)
theorem Rows.len {σ : St} {B : Addr} : ∀ {vs : List V} {its : List (List V)}, Rows σ B vs its → vs.length = its.length
  | _, _, .nil => rfl
  | _, _, .cons h1 h2 r => by simp [Rows.len r]
section
variable {prog : Program} {w : World} {c : Cx w (hd2.heap_39 w.params)} {ρ : Loc} {σ : St} {Q : V → St → Prop}
theorem me_newvar : MethOk (hd2.heap_39 w.params) 390 "new_variable" 310 := ⟨rfl, rfl⟩
theorem me_condition : MethOk (hd2.heap_39 w.params) 390 "condition" 366 := ⟨rfl, rfl⟩
theorem me_branches : MethOk (hd2.heap_39 w.params) 390 "branches" 373 := ⟨rfl, rfl⟩
theorem me_negation : MethOk (hd2.heap_39 w.params) 390 "negation" 380 := ⟨rfl, rfl⟩
theorem NoA.keep {σ σ' : St} {m dm wk : Addr} {sy il fr : V} {n : Int} {ws : List V} {S : List Addr} (h : NoA σ m dm wk sy il fr n ws) (k : Keep S σ σ') (hS : ∀ a ∈ S, a ≠ wk ∧ a ≠ m ∧ a ≠ dm) : NoA σ' m dm wk sy il fr n ws :=
  ⟨k _ _ h.x fun x => (hS _ x).2.1 rfl, k _ _ h.ns fun x => (hS _ x).2.2 rfl, k _ _ h.wk fun x => (hS _ x).1 rfl⟩
theorem c_condition {d : Nat} (hd : d + 2 = c.d) (hdd : 100 ≤ d) {q : Int} (hq : q ≠ 1 ∧ q ≠ 2 ∧ q ≠ 3) {t : Tm} (hz : t.sz ≤ 900000) {m dm wk : Addr} {sy il fr : V} {n : Int} {ws : List V} (hN : NoA σ m dm wk sy il fr n ws)
   (h : ∀ σ' D, σ D = none → Keep [dm] σ σ' → NoA σ' m dm wk sy il fr (testN n t) ws → σ' D = some (.list (testV q n t)) → Q (.loc D) σ') : CF prog c 366 [.loc m, t.toV q] ρ σ Q := by
  refine CF_K (names := ["self", "term"]) (hl := rfl) (d := d + 1) hd rfl rfl (all2 fun a b => by kernel_rfl) rfl (by decide) (by decide) (by decide) rfl rfl rfl fun c' hd' he => ?_
  refine EX_cons ?_
  refine EX_If ?_
  refine TR_plain rfl ?_
  refine EV_fcall (f := 268) he rfl rfl rfl rfl rfl rfl rfl ?_
  refine EVs_cons rfl ?_
  refine EV_local he rfl rfl rfl ?_
  refine EVs_nil ?_
  refine c_has_cut (d := d) hd'.symm hdd hq hz fun σ1 k1 => ?_
  refine OPb_bool ?_
  have hN1 := hN.keep k1 (by simp)
  by_cases hc : t.cutS = true
  · rw [if_pos hc]
    have e1 : testN n t = n + 1 := if_pos hc
    have e2 : testV q n t = [.tup [.str "mark", .int n], .tup [.str "body", t.toV q, .int n]] := if_pos hc
    rw [e1, e2] at h
    refine EX_cons ?_
    refine EX_Name he rfl rfl ?_
    refine EV_meth0 rfl ?_
    refine EV_local he rfl rfl rfl ⟨m, 390, dm, _, 310, rfl, hN1.x, hN1.ns, cls_norm, me_newvar, rfl, .inl rfl, ?_⟩
    refine c_newvar (d := d) hd'.symm hN1 fun σ2 k2 hN2 => ?_
    refine EX_cons ?_
    refine EX_Return ?_
    refine EV_List ?_
    refine EVs_cons rfl ?_
    refine EV_Tuple ?_
    refine EVs_str ?_
    refine EVs_cons rfl ?_
    refine EV_local he rfl rfl rfl ?_
    refine EVs_nil ⟨by simp, ?_⟩
    refine EVs_cons rfl ?_
    refine EV_Tuple ?_
    refine EVs_str ?_
    refine EVs_cons rfl ?_
    refine EV_local he rfl rfl rfl ?_
    refine EVs_cons rfl ?_
    refine EV_local he rfl rfl rfl ?_
    refine EVs_nil ⟨by simp, ?_⟩
    refine EVs_nil ⟨by simp, fun D hD => ?_⟩
    have k3 : Keep [dm] σ σ2 := (k1.wide (by simp)).trans k2
    refine h _ D ?_ (k3.updNew hD _) ?_ (upd_same _ _ _)
    · exact k3.none hD (by simp; exact neF' hN2.ns hD)
    · exact ⟨(upd_ne (neF hN2.x hD)).trans hN2.x, (upd_ne (neF hN2.ns hD)).trans hN2.ns, (upd_ne (neF hN2.wk hD)).trans hN2.wk⟩
  · rw [if_neg hc]
    have e1 : testN n t = n := if_neg hc
    have e2 : testV q n t = [.tup [.str "body", t.toV q, .int (-1)]] := if_neg hc
    rw [e1, e2] at h
    refine EX_nil ?_
    refine EX_cons ?_
    refine EX_Return ?_
    refine EV_List ?_
    refine EVs_cons rfl ?_
    refine EV_Tuple ?_
    refine EVs_str ?_
    refine EVs_cons rfl ?_
    refine EV_local he rfl rfl rfl ?_
    refine EVs_cons rfl ?_
    refine EV_globInt he rfl rfl rfl ?_
    refine EVs_nil ⟨by simp, ?_⟩
    refine EVs_nil ⟨by simp, fun D hD => ?_⟩
    refine h _ D (k1.none hD (by simp)) ((k1.wide (by simp)).updNew hD _) ?_ (upd_same _ _ _)
    exact ⟨(upd_ne (neF hN1.x hD)).trans hN1.x, (upd_ne (neF hN1.ns hD)).trans hN1.ns, (upd_ne (neF hN1.wk hD)).trans hN1.wk⟩
theorem c_negation {d : Nat} (hd : d + 3 = c.d) (hdd : 100 ≤ d) {q : Int} (hq : q ≠ 1 ∧ q ≠ 2 ∧ q ≠ 3) {t : Tm} (hz : t.sz ≤ 900000) {m dm wk : Addr} {sy il fr : V} {n : Int} {ws : List V} (hN : NoA σ m dm wk sy il fr n ws)
   (h : ∀ σ' B I E, Keep [dm] σ σ' → NoA σ' m dm wk sy il fr (if t.numG then n else testN n t) ws → σ' B = some (.list [.loc I, .loc E]) → σ' I = some (.list ((if t.numG then [.tup [.str "body", .tup [.str "s", .int 24, .tup [t.toV q]], .int (-1)]] else testV q n t) ++ [ownV, .tup [.str "fail"]])) → σ' E = some (.list []) → Q (.loc B) σ') : CF prog c 380 [.loc m, t.toV q] ρ σ Q := by
  refine CF_K (names := ["self", "term"]) (hl := rfl) (d := d + 2) hd rfl rfl (all2 fun a b => by kernel_rfl) rfl (by decide) (by decide) (by decide) rfl rfl rfl fun c' hd' he => ?_
  have next : ∀ (σ1 : St) (I : Addr) (it : List V) (n' : Int), σ I = none → Keep [dm] σ σ1 → NoA σ1 m dm wk sy il fr n' ws → σ1 I = some (.list it) → it.length ≤ 3 → n' = (if t.numG then n else testN n t) → it = (if t.numG then [.tup [.str "body", .tup [.str "s", .int 24, .tup [t.toV q]], .int (-1)]] else testV q n t) →
      EX prog c' (execs ?rest ?env) [("self", .loc m), ("term", t.toV q), ("items", .loc I)] σ1 (fun fl _ σ' => Q (retV fl) σ') := ?_
  · refine EX_cons ?_
    refine EX_If ?_
    refine TR_plain rfl ?_
    refine EV_fcall (f := 247) he rfl rfl rfl rfl rfl rfl rfl ?_
    refine EVs_cons rfl ?_
    refine EV_local he rfl rfl rfl ?_
    refine EVs_nil ?_
    refine c_is_body (d := d + 1) hd'.symm (by omega) hq hz fun σ1 k1 => ?_
    refine OPb_bool ?_
    have hN1 := hN.keep k1 (by simp)
    by_cases hg : t.numG = true
    · rw [if_neg (by simp [hg])]
      refine EX_cons ?_
      refine EX_Name he rfl rfl ?_
      refine EV_List ?_
      refine EVs_cons rfl ?_
      refine EV_Tuple ?_
      refine EVs_str ?_
      refine EVs_cons rfl ?_
      refine EV_fcall (f := 140) he rfl rfl rfl rfl rfl rfl rfl ?_
      refine EVs_cons rfl ?_
      refine EV_globInt he rfl rfl rfl ?_
      refine EVs_cons rfl ?_
      refine EV_Tuple ?_
      refine EVs_cons rfl ?_
      refine EV_local he rfl rfl rfl ?_
      refine EVs_nil ⟨by simp, ?_⟩
      refine EVs_nil ?_
      refine c_struct (d := d + 1) hd'.symm _ _ ?_
      refine EVs_cons rfl ?_
      refine EV_globInt he rfl rfl rfl ?_
      refine EVs_nil ⟨by simp, ?_⟩
      refine EVs_nil ⟨by simp, fun I hI => ?_⟩
      refine EX_nil ?_
      refine next _ I [V.tup [.str "body", .tup [.str "s", .int 24, .tup [t.toV q]], .int (-1)]] n (k1.none hI (by simp)) ((k1.wide (by simp)).updNew hI _) ?_ (upd_same _ _ _) (by simp) (by rw [if_pos hg]) (by rw [if_pos hg])
      exact ⟨(upd_ne (neF hN1.x hI)).trans hN1.x, (upd_ne (neF hN1.ns hI)).trans hN1.ns, (upd_ne (neF hN1.wk hI)).trans hN1.wk⟩
    · rw [if_pos (by simp [hg])]
      refine EX_cons ?_
      refine EX_Name he rfl rfl ?_
      refine EV_meth rfl rfl rfl ?_
      refine EV_local he rfl rfl rfl ?_
      refine ⟨m, 390, dm, _, 366, rfl, hN1.x, hN1.ns, cls_norm, me_condition, rfl, ?_⟩
      refine EVs_cons rfl ?_
      refine EV_local he rfl rfl rfl ?_
      refine EVs_nil ⟨.inl rfl, ?_⟩
      refine c_condition (d := d) (by omega) hdd hq hz hN1 fun σ2 I hI k2 hN2 hI2 => ?_
      refine EX_nil ?_
      refine next _ I _ _ (k1.none hI (by simp)) ((k1.wide (by simp)).trans k2) hN2 hI2 ?_ (by simp [hg]) (by simp [hg])
      unfold testV
      split <;> simp
  · intro σ1 I it n' hI k1 hN1 hI1 hl e1 e2
    subst e1; subst e2
    refine EX_cons ?_
    refine EX_Expr rfl rfl ?_
    refine EV_append rfl rfl rfl rfl rfl ?_
    refine EV_local he rfl rfl rfl ⟨I, rfl, ⟨_, hI1⟩, ?_⟩
    refine EV_Tuple ?_
    refine EVs_str ?_
    refine EVs_nil ⟨by simp, ?_⟩
    refine ⟨_, hI1, by omega, ?_⟩
    refine EX_cons ?_
    refine EX_Expr rfl rfl ?_
    refine EV_append rfl rfl rfl rfl rfl ?_
    refine EV_local he rfl rfl rfl ⟨I, rfl, ⟨_, upd_same _ _ _⟩, ?_⟩
    refine EV_Tuple ?_
    refine EVs_str ?_
    refine EVs_nil ⟨by simp, ?_⟩
    refine ⟨_, upd_same _ _ _, by simp; omega, ?_⟩
    rw [upd_upd]
    have nI : I ≠ m ∧ I ≠ dm ∧ I ≠ wk := ⟨neF' hN.x hI, neF' hN.ns hI, neF' hN.wk hI⟩
    generalize hit : (if t.numG then [V.tup [.str "body", .tup [.str "s", .int 24, .tup [t.toV q]], .int (-1)]] else testV q n t) = it at hI1 hl h
    have k2 : Keep [I, dm] σ (upd σ1 I (.list (it ++ [ownV] ++ [.tup [.str "fail"]]))) := (k1.wide (by simp)).updIn (.head _) _
    have hI2 : upd σ1 I (.list (it ++ [ownV] ++ [.tup [.str "fail"]])) I = _ := upd_same _ _ _
    have hN2 : NoA (upd σ1 I (.list (it ++ [ownV] ++ [.tup [.str "fail"]]))) m dm wk sy il fr (if t.numG then n else testN n t) ws := ⟨(upd_ne (Ne.symm nI.1)).trans hN1.x, (upd_ne (Ne.symm nI.2.1)).trans hN1.ns, (upd_ne (Ne.symm nI.2.2)).trans hN1.wk⟩
    replace k2 := k2.drop hI
    change EX _ _ _ _ (upd σ1 I (.list (it ++ [ownV] ++ [.tup [.str "fail"]]))) _
    generalize upd σ1 I (.list (it ++ [ownV] ++ [.tup [.str "fail"]])) = σ2 at k2 hI2 hN2
    refine EX_cons ?_
    refine EX_Return ?_
    refine EV_List ?_
    refine EVs_cons rfl ?_
    refine EV_local he rfl rfl rfl ?_
    refine EVs_cons rfl ?_
    refine EV_List ?_
    refine EVs_nil ⟨by simp, fun E hE => ?_⟩
    refine EVs_nil ⟨by simp, fun B hB => ?_⟩
    have hE3 : upd σ2 E (.list []) E = some (.list []) := upd_same _ _ _
    have nEB := neF hE3 hB
    have nIE := neF hI2 hE
    have hI3 : upd σ2 E (.list []) I = _ := (upd_ne nIE).trans hI2
    have nIB := neF hI3 hB
    refine h _ B I E ((k2.updNew hE _).updNew hB _) ?_ (upd_same _ _ _) ((upd_ne nIB).trans (hI3.trans (by simp))) ((upd_ne nEB).trans hE3)
    have hN3 := hN2.keep (Keep.updNew (Keep.refl [] _) hE (.list [])) (by simp)
    exact hN3.keep (Keep.updNew (Keep.refl [] _) hB _) (by simp)
end
end RH
set_option Elab.async false
set_option maxRecDepth 100000
set_option maxHeartbeats 4000000
set_option linter.all false
namespace RH
open PySem PySem.W PySem.Calls PyProof.Rows
theorem spine_sz : ∀ (t p : Tm), p ∈ t.spine → p.sz ≤ t.sz
  | .q _, p, h => by simp [Tm.spine] at h; subst h; exact Nat.le_refl _
  | .cut, p, h => by simp [Tm.spine] at h; subst h; exact Nat.le_refl _
  | .v _, p, h => by simp [Tm.spine] at h; subst h; exact Nat.le_refl _
  | .i _, p, h => by simp [Tm.spine] at h; subst h; exact Nat.le_refl _
  | .neg _, p, h => by simp [Tm.spine] at h; subst h; exact Nat.le_refl _
  | .bin o l r, p, h => by
    unfold Tm.spine at h
    split at h
    · rcases List.mem_cons.mp h with h | h
      · subst h; simp [Tm.sz]; omega
      · have := spine_sz r p h
        simp [Tm.sz]; omega
    · simp at h; subst h; exact Nat.le_refl _
theorem opI_arrow {o : Fin 3} : (opI o == 3) = decide (o = 2) := by revert o; decide
section
variable {prog : Program} {w : World} {c : Cx w (hd2.heap_39 w.params)} {ρ : Loc} {σ : St} {Q : V → St → Prop}
theorem c_branches {d : Nat} (hd : d + 3 = c.d) (hdd : 100 ≤ d) {q : Int} (hq : q ≠ 1 ∧ q ≠ 2 ∧ q ≠ 3) {t : Tm} (hz : t.sz ≤ 900000) {m dm wk : Addr} {sy il fr : V} {n : Int} {ws : List V} (hN : NoA σ m dm wk sy il fr n ws) (tg : Int)
   (h : ∀ σ' B vs, σ B = none → Keep [dm] σ σ' → NoA σ' m dm wk sy il fr (endN n t.spine) ws → σ' B = some (.list vs) → Rows σ' B vs (bodsV q tg n t.spine) → Q (.loc B) σ') : CF prog c 373 [.loc m, t.toV q, .int tg] ρ σ Q := by
  refine CF_K (names := ["self", "term", "target"]) (hl := rfl) (d := d + 2) hd rfl rfl (all3 fun a b c => by kernel_rfl) rfl (by decide) (by decide) (by decide) rfl rfl rfl fun c' hd' he => ?_
  refine EX_cons ?_
  refine EX_Name he rfl rfl ?_
  refine EV_List ?_
  refine EVs_nil ⟨by simp, fun B hB => ?_⟩
  have k1 : Keep [] σ (upd σ B (.list [])) := (Keep.refl _ _).updNew hB _
  have hB1 : upd σ B (.list []) B = some (.list []) := upd_same _ _ _
  have hN1 := hN.keep k1 (by simp)
  generalize upd σ B (.list []) = σ1 at k1 hB1 hN1
  refine EX_cons ?_
  refine EX_For he rfl (fun _ => rfl) ?_
  refine EV_fcall (f := 254) he rfl rfl rfl rfl rfl rfl rfl ?_
  refine EVs_cons rfl ?_
  refine EV_local he rfl rfl rfl ?_
  refine EVs_cons rfl ?_
  refine EV_Tuple ?_
  refine EVs_cons rfl ?_
  refine EV_globInt he rfl rfl rfl ?_
  refine EVs_nil ⟨by simp, ?_⟩
  refine EVs_nil ?_
  refine c_spine (d := d + 1) hd'.symm (by omega) hq hz fun σ2 S hS k2 hS2 => ?_
  have hB2 := k2 _ _ hB1 (by simp)
  have hN2 := hN1.keep k2 (by simp)
  have hSB : S ≠ B := neF' hB1 hS
  have hSd : S ≠ dm := neF' hN1.ns hS
  have hBd : B ≠ dm := neF' hN.ns hB
  have hBm : B ≠ m := neF' hN.x hB
  have hBw : B ≠ wk := neF' hN.wk hB
  have k02 : Keep [B, dm] σ σ2 := (k1.wide (by simp)).trans (k2.wide (by simp))
  have hlen := spine_len t
  refine ⟨_, _, .list hS2, ?_⟩
  refine FB_run (fun vs ρ σ' => Sub [("self", .loc m), ("target", .int tg), ("bodies", .loc B)] ρ ∧ ∃ (r : List Tm) (n' : Int) (done : List (List V)) (bs : List V), vs = r.map (Tm.toV q) ∧ (∀ p ∈ r, p.sz ≤ t.sz) ∧ done.length + r.length = t.spine.length ∧ done ++ bodsV q tg n' r = bodsV q tg n t.spine ∧ endN n' r = endN n t.spine ∧
      Keep [B, dm] σ σ' ∧ σ' B = some (.list bs) ∧ Rows σ' B bs done ∧ NoA σ' m dm wk sy il fr n' ws ∧ σ' S = some (.list (t.spine.map (Tm.toV q))))
    (fun ρ σ' => Sub [("self", .loc m), ("target", .int tg), ("bodies", .loc B)] ρ ∧ ∃ (bs : List V), Keep [B, dm] σ σ' ∧ σ' B = some (.list bs) ∧ Rows σ' B bs (bodsV q tg n t.spine) ∧ NoA σ' m dm wk sy il fr (endN n t.spine) ws) ?_ ?_ ?_
    ⟨.cons rfl (.cons rfl (.cons rfl .nil)), t.spine, n, [], [], rfl, spine_sz t, by simp, rfl, rfl, k02, hB2, .nil, hN2, hS2⟩
  · rintro v vs ρ3 σ3 ⟨hs, r, n', done, bs, hv, hrz, hl, hd1, he1, k3, hB3, hR3, hN3, hS3⟩
    cases r with
    | nil => cases hv
    | cons p r =>
    cases hv
    have hpz := hrz p (.head _)
    have hbl := hR3.len
    simp only [List.length_cons] at hl
    refine EX.sub (ρ' := lset [("self", .loc m), ("target", .int tg), ("bodies", .loc B)] "part" (p.toV q)) (Sub.both hs) ?_
    have last : ∀ σ4 (I : Addr), Keep [dm] σ3 σ4 → NoA σ4 m dm wk sy il fr (markN n' p) ws → σ3 I = none → σ4 I = some (.list (itemsV q tg n' p)) → EX prog c' (execs ?rest ?env) (lset (lset [("self", .loc m), ("target", .int tg), ("bodies", .loc B)] "part" (p.toV q)) "items" (.loc I)) σ4 ?post := ?_
    · have plain : (itemsV q tg n' p = [bodyV q p tg]) → markN n' p = n' → EX prog c' (execs ?els ?env2) (lset [("self", .loc m), ("target", .int tg), ("bodies", .loc B)] "part" (p.toV q)) σ3 ?post2 := ?_
      · refine EX_cons ?_
        refine EX_If ?_
        refine TR_and ?_
        cases p with
        | cut =>
          refine TR_Compare rfl (EV_Sub (fun _ _ => rfl) (EV_local he rfl rfl rfl (EV_int ⟨_, 0, .str "a", rfl, rfl, rfl, EV_str (OP_eqs ⟨_, rfl, ?_⟩)⟩)))
          rw [if_neg (by decide)]
          rw [if_neg (by decide)]
          exact plain rfl rfl
        | v k =>
          refine TR_Compare rfl (EV_Sub (fun _ _ => rfl) (EV_local he rfl rfl rfl (EV_int ⟨_, 0, .str "v", rfl, rfl, rfl, EV_str (OP_eqs ⟨_, rfl, ?_⟩)⟩)))
          rw [if_neg (by decide)]
          rw [if_neg (by decide)]
          exact plain rfl rfl
        | i k =>
          refine TR_Compare rfl (EV_Sub (fun _ _ => rfl) (EV_local he rfl rfl rfl (EV_int ⟨_, 0, .str "i", rfl, rfl, rfl, EV_str (OP_eqs ⟨_, rfl, ?_⟩)⟩)))
          rw [if_neg (by decide)]
          rw [if_neg (by decide)]
          exact plain rfl rfl
        | q k =>
          refine TR_Compare rfl (EV_Sub (fun _ _ => rfl) (EV_local he rfl rfl rfl (EV_int ⟨_, 0, .str "s", rfl, rfl, rfl, EV_str (OP_eqs ⟨_, rfl, ?_⟩)⟩)))
          rw [if_pos (by decide)]
          refine TR_and ?_
          refine TR_Compare rfl (EV_Sub (fun _ _ => rfl) (EV_local he rfl rfl rfl (EV_int ⟨_, 1, .int q, rfl, rfl, rfl, EV_globInt he rfl rfl rfl (OP_eq ⟨_, rfl, ?_⟩)⟩)))
          rw [if_neg (by simpa using hq.2.2)]
          rw [if_neg (by decide)]
          exact plain rfl rfl
        | neg b =>
          refine TR_Compare rfl (EV_Sub (fun _ _ => rfl) (EV_local he rfl rfl rfl (EV_int ⟨_, 0, .str "s", rfl, rfl, rfl, EV_str (OP_eqs ⟨_, rfl, ?_⟩)⟩)))
          rw [if_pos (by decide)]
          refine TR_and ?_
          refine TR_Compare rfl (EV_Sub (fun _ _ => rfl) (EV_local he rfl rfl rfl (EV_int ⟨_, 1, .int 4, rfl, rfl, rfl, EV_globInt he rfl rfl rfl (OP_eq ⟨_, rfl, ?_⟩)⟩)))
          rw [if_neg (by decide)]
          rw [if_neg (by decide)]
          exact plain rfl rfl
        | bin o b e =>
          refine TR_Compare rfl (EV_Sub (fun _ _ => rfl) (EV_local he rfl rfl rfl (EV_int ⟨_, 0, .str "s", rfl, rfl, rfl, EV_str (OP_eqs ⟨_, rfl, ?_⟩)⟩)))
          rw [if_pos (by decide)]
          refine TR_and ?_
          refine TR_Compare rfl (EV_Sub (fun _ _ => rfl) (EV_local he rfl rfl rfl (EV_int ⟨_, 1, .int (opI o), rfl, rfl, rfl, EV_globInt he rfl rfl rfl (OP_eq ⟨_, rfl, ?_⟩)⟩)))
          rw [opI_arrow]
          by_cases ho : o = 2
          · rw [if_pos (by simp [ho])]
            refine TR_and0 ?_
            rw [if_pos rfl]
            have e1 : itemsV q tg n' (.bin o b e) = testV q n' b ++ [ownV, bodyV q e tg] := if_pos ho
            have e2 : markN n' (.bin o b e) = testN n' b := if_pos ho
            have hsz : (Tm.bin o b e).sz = b.sz + e.sz + 1 := rfl
            refine EX_cons ?_
            refine EX_Name he rfl rfl ?_
            refine EV_meth rfl rfl rfl ?_
            refine EV_local he rfl rfl rfl ?_
            refine ⟨m, 390, dm, _, 366, rfl, hN3.x, hN3.ns, cls_norm, me_condition, rfl, ?_⟩
            refine EVs_cons rfl ?_
            refine EV_Sub (fun _ _ => rfl) ?_
            refine EV_Sub (fun _ _ => rfl) ?_
            refine EV_local he rfl rfl rfl ?_
            refine EV_int ⟨_, 2, .tup [b.toV q, e.toV q], rfl, rfl, rfl, ?_⟩
            refine EV_int ⟨_, 0, b.toV q, rfl, rfl, rfl, ?_⟩
            refine EVs_nil ⟨.inl rfl, ?_⟩
            refine c_condition (d := d) (by omega) hdd hq (by omega) hN3 fun σ4 I hI k4 hN4 hI4 => ?_
            have hIl : (testV q n' b).length ≤ 2 := by unfold testV; split <;> simp
            refine EX_cons ?_
            refine EX_Expr rfl rfl ?_
            refine EV_append rfl rfl rfl rfl rfl ?_
            refine EV_local he rfl rfl rfl ⟨I, rfl, ⟨_, hI4⟩, ?_⟩
            refine EV_Tuple ?_
            refine EVs_str ?_
            refine EVs_nil ⟨by simp, ?_⟩
            refine ⟨_, hI4, by omega, ?_⟩
            refine EX_cons ?_
            refine EX_Expr rfl rfl ?_
            refine EV_append rfl rfl rfl rfl rfl ?_
            refine EV_local he rfl rfl rfl ⟨I, rfl, ⟨_, upd_same _ _ _⟩, ?_⟩
            refine EV_Tuple ?_
            refine EVs_str ?_
            refine EVs_cons rfl ?_
            refine EV_Sub (fun _ _ => rfl) ?_
            refine EV_Sub (fun _ _ => rfl) ?_
            refine EV_local he rfl rfl rfl ?_
            refine EV_int ⟨_, 2, .tup [b.toV q, e.toV q], rfl, rfl, rfl, ?_⟩
            refine EV_int ⟨_, 1, e.toV q, rfl, rfl, rfl, ?_⟩
            refine EVs_cons rfl ?_
            refine EV_local he rfl rfl rfl ?_
            refine EVs_nil ⟨by simp, ?_⟩
            refine ⟨_, upd_same _ _ _, by simp; omega, ?_⟩
            rw [upd_upd]
            refine EX_nil ?_
            refine last _ I ?_ ?_ hI ((upd_same _ _ _).trans ?_)
            · exact ((k4.wide (by simp)).updIn (S := [I, dm]) (.head _) _).drop hI
            · rw [e2]
              exact ⟨(upd_ne (neF hN3.x hI)).trans hN4.x, (upd_ne (neF hN3.ns hI)).trans hN4.ns, (upd_ne (neF hN3.wk hI)).trans hN4.wk⟩
            · rw [e1]; simp [ownV, bodyV]
          · rw [if_neg (by simp [ho])]
            rw [if_neg (by decide)]
            exact plain (if_neg ho) (if_neg ho)
      · intro e1 e2
        refine EX_cons ?_
        refine EX_Name he rfl rfl ?_
        refine EV_List ?_
        refine EVs_cons rfl ?_
        refine EV_Tuple ?_
        refine EVs_str ?_
        refine EVs_cons rfl ?_
        refine EV_local he rfl rfl rfl ?_
        refine EVs_cons rfl ?_
        refine EV_local he rfl rfl rfl ?_
        refine EVs_nil ⟨by simp, ?_⟩
        refine EVs_nil ⟨by simp, fun I hI => ?_⟩
        refine EX_nil ?_
        refine last _ I ((Keep.refl _ _).updNew hI _) ?_ hI ((upd_same _ _ _).trans (by rw [e1]; rfl))
        rw [e2]
        exact hN3.keep (Keep.updNew (Keep.refl [] _) hI _) (by simp)
    · intro σ4 I k4 hN4 hI hI4
      have hB4 := k4 _ _ hB3 (by simpa using hBd)
      have hIB : I ≠ B := neF' hB3 hI
      refine EX_cons ?_
      refine EX_Expr rfl rfl ?_
      refine EV_append rfl rfl rfl rfl rfl ?_
      refine EV_local he rfl rfl rfl ⟨B, rfl, ⟨_, hB4⟩, ?_⟩
      refine EV_local he rfl rfl rfl ?_
      refine ⟨_, hB4, by omega, ?_⟩
      refine EX_nil ?_
      have k5 : Keep [B] σ4 (upd σ4 B (.list (bs ++ [.loc I]))) := (Keep.refl _ _).updIn (.head _) _
      have hS4 := k4 _ _ hS3 (by simpa using hSd)
      have hS5 := k5 _ _ hS4 (by simpa using hSB)
      refine ⟨hS5, .cons rfl (.cons rfl (.cons rfl .nil)), r, markN n' p, done ++ [itemsV q tg n' p], bs ++ [.loc I], rfl, fun x hx => hrz x (.tail _ hx), by simp; omega, ?_, ?_, ?_, upd_same _ _ _, ?_, ?_, hS5⟩
      · rw [← hd1]; simp [bodsV]
      · rw [← he1]; rfl
      · exact (k3.trans (k4.wide (by simp))).trans (k5.wide (by simp))
      · refine Rows.snoc ((upd_ne hIB).trans hI4) hIB (Rows.keep k5 (by simp) (Rows.keep k4 ?_ hR3))
        intro a ha
        simp at ha; subst ha
        exact .inr fun l => by rw [hN3.ns]; simp
      · exact hN4.keep k5 (by simp; exact ⟨hBw, hBm, hBd⟩)
  · rintro ρ3 σ3 ⟨hs, r, n', done, bs, hv, hrz, hl, hd1, he1, k3, hB3, hR3, hN3, hS3⟩
    cases r with
    | cons p r => cases hv
    | nil =>
      simp only [bodsV, List.append_nil] at hd1
      have he1' : n' = endN n t.spine := he1
      rw [← hd1, ← he1']
      exact ⟨hs, bs, k3, hB3, hR3, hN3⟩
  · rintro ρ3 σ3 ⟨hs, bs, k3, hB3, hR3, hN3⟩
    refine EX.sub hs ?_
    refine EX_cons ?_
    refine EX_Return ?_
    refine EV_local he rfl rfl rfl ?_
    exact h σ3 B bs hB (k3.drop hB) hN3 hB3 hR3
end
end RH
set_option Elab.async false
set_option maxRecDepth 100000
set_option maxHeartbeats 4000000
set_option linter.all false
namespace RH
open PySem PySem.W PySem.Calls PyProof.Rows
theorem opI_cs {o : Fin 3} (h : o ≠ 2) : ¬ ((!decide (opI o ∈ [1, 2])) = true) := by revert h; revert o; decide
theorem opI_all (o : Fin 3) : decide (opI o ∈ [1, 2, 3]) = true := by revert o; decide
theorem eqv_tag {a b : Str} (h : (a == b) = false) (x y : PyData) : PyData.eqv (.tuple [.str a, x]) (.tuple [.str b, y]) = false := by
  simp [PyData.eqv, PyData.eqvAll, h]
theorem okD_pair {a : Str} (i : Int) (h : PyData.strOk a = true) : okD (.tuple [.str a, .int i]) = true := okD_tup (n := 4) (by simp [PyData.canLayAll0, PyData.canLay0, h]) (by simp [PyData.depthAll, PyData.depth]) (by decide)
section
variable {prog : Program} {w : World} {c : Cx w (hd2.heap_39 w.params)} {ρ : Loc} {σ : St} {Q : V → St → Prop}
theorem c_cutst0 {q : Int} (hq : q ≠ 1 ∧ q ≠ 2 ∧ q ≠ 3) (n : Nat) (ih : ∀ m, m + 1 = n → ∀ {c : Cx w (hd2.heap_39 w.params)} {ρ : Loc} {σ : St} {Q : V → St → Prop} {d : Nat} (hd : d + 1 = c.d) (hdd : 110 + m ≤ d) {t : Tm} (ht : t.ok m) (h : ∀ σ', Keep [] σ σ' → Q (.bool t.cutS) σ'), CF prog c 429 [t.toV q] ρ σ Q)
   {d : Nat} (hd : d + 1 = c.d) (hdd : 110 + n ≤ d) {t : Tm} (ht : t.ok n) (h : ∀ σ', Keep [] σ σ' → Q (.bool t.cutS) σ') : CF prog c 429 [t.toV q] ρ σ Q := by
  refine CF_K (names := ["term"]) (hl := rfl) (d := d) hd rfl rfl (all1 fun a => by kernel_rfl) rfl (by decide) (by decide) (by decide) rfl rfl rfl fun c' hd' he => ?_
  obtain ⟨e, rfl⟩ : ∃ e, d = e + 1 := ⟨d - 1, by omega⟩
  have ok15 : okD (.tuple [.str "a", .int 15]) = true := okD_pair _ (by decide +kernel)
  refine EX_cons ?_
  refine EX_If ?_
  cases t with
  | cut =>
    refine TR_Compare rfl (EV_Sub (fun _ _ => rfl) (EV_local he rfl rfl rfl (EV_int ⟨_, 0, .str "a", rfl, rfl, rfl, EV_str (OP_nes ⟨_, rfl, ?_⟩)⟩)))
    rw [if_pos (by decide)]
    refine EX_cons ?_
    refine EX_Return ?_
    refine EV_Compare rfl ?_
    refine EV_local he rfl rfl rfl ?_
    refine EV_Tuple ?_
    refine EVs_str ?_
    refine EVs_cons rfl ?_
    refine EV_globInt he rfl rfl rfl ?_
    refine EVs_nil ⟨by simp, ?_⟩
    refine OP_eqD (by omega) (.tup (.cons (.str _) (.cons (.int _) .nil))) (.tup (.cons (.str _) (.cons (.int _) .nil))) ok15 ok15 ?_
    rw [eqv_ok ok15]
    exact h _ (Keep.refl _ _)
  | v k =>
    refine TR_Compare rfl (EV_Sub (fun _ _ => rfl) (EV_local he rfl rfl rfl (EV_int ⟨_, 0, .str "v", rfl, rfl, rfl, EV_str (OP_nes ⟨_, rfl, ?_⟩)⟩)))
    rw [if_pos (by decide)]
    refine EX_cons ?_
    refine EX_Return ?_
    refine EV_Compare rfl ?_
    refine EV_local he rfl rfl rfl ?_
    refine EV_Tuple ?_
    refine EVs_str ?_
    refine EVs_cons rfl ?_
    refine EV_globInt he rfl rfl rfl ?_
    refine EVs_nil ⟨by simp, ?_⟩
    refine OP_eqD (by omega) (.tup (.cons (.str _) (.cons (.int _) .nil))) (.tup (.cons (.str _) (.cons (.int _) .nil))) (okD_pair k (by decide +kernel)) ok15 ?_
    rw [eqv_tag (by decide)]
    exact h _ (Keep.refl _ _)
  | i k =>
    refine TR_Compare rfl (EV_Sub (fun _ _ => rfl) (EV_local he rfl rfl rfl (EV_int ⟨_, 0, .str "i", rfl, rfl, rfl, EV_str (OP_nes ⟨_, rfl, ?_⟩)⟩)))
    rw [if_pos (by decide)]
    refine EX_cons ?_
    refine EX_Return ?_
    refine EV_Compare rfl ?_
    refine EV_local he rfl rfl rfl ?_
    refine EV_Tuple ?_
    refine EVs_str ?_
    refine EVs_cons rfl ?_
    refine EV_globInt he rfl rfl rfl ?_
    refine EVs_nil ⟨by simp, ?_⟩
    refine OP_eqD (by omega) (.tup (.cons (.str _) (.cons (.int _) .nil))) (.tup (.cons (.str _) (.cons (.int _) .nil))) (okD_pair k (by decide +kernel)) ok15 ?_
    rw [eqv_tag (by decide)]
    exact h _ (Keep.refl _ _)
  | q k =>
    refine TR_Compare rfl (EV_Sub (fun _ _ => rfl) (EV_local he rfl rfl rfl (EV_int ⟨_, 0, .str "s", rfl, rfl, rfl, EV_str (OP_nes ⟨_, rfl, ?_⟩)⟩)))
    rw [if_neg (by decide)]
    refine EX_nil (EX_cons (EX_If (TR_Compare rfl (EV_Sub (fun _ _ => rfl) (EV_local he rfl rfl rfl (EV_int ⟨_, 1, .int q, rfl, rfl, rfl, EV_globInt he rfl rfl rfl (OP_eq ⟨_, rfl, ?_⟩)⟩))))))
    rw [if_neg (by simpa using hq.2.2)]
    refine EX_nil ?_
    refine EX_cons ?_
    refine EX_If ?_
    refine TR_Compare rfl ?_
    refine EV_Sub (fun _ _ => rfl) ?_
    refine EV_local he rfl rfl rfl ?_
    refine EV_int ⟨_, 1, .int q, rfl, rfl, rfl, ?_⟩
    refine EV_List ?_
    refine EVs_cons rfl ?_
    refine EV_globInt he rfl rfl rfl ?_
    refine EVs_cons rfl ?_
    refine EV_globInt he rfl rfl rfl ?_
    refine EVs_nil ⟨by simp, fun l hl => ?_⟩
    refine OP_notInD (ys := intl [1, 2]) (dys := [1, 2].map PyData.int) (by omega) (.int q) (upd_same _ _ _) (VDs_intl _ _) (okD_int q) (lay_intl _) ⟨_, rfl, ?_⟩
    rw [any_int, if_pos (by simp; exact ⟨hq.1, hq.2.1⟩)]
    refine EX_cons ?_
    refine EX_Return ?_
    refine EV_bool ?_
    exact h _ ((Keep.refl _ _).updNew hl _)
  | neg b =>
    refine TR_Compare rfl (EV_Sub (fun _ _ => rfl) (EV_local he rfl rfl rfl (EV_int ⟨_, 0, .str "s", rfl, rfl, rfl, EV_str (OP_nes ⟨_, rfl, ?_⟩)⟩)))
    rw [if_neg (by decide)]
    refine EX_nil (EX_cons (EX_If (TR_Compare rfl (EV_Sub (fun _ _ => rfl) (EV_local he rfl rfl rfl (EV_int ⟨_, 1, .int 4, rfl, rfl, rfl, EV_globInt he rfl rfl rfl (OP_eq ⟨_, rfl, ?_⟩)⟩))))))
    rw [if_neg (by decide)]
    refine EX_nil ?_
    refine EX_cons ?_
    refine EX_If ?_
    refine TR_Compare rfl ?_
    refine EV_Sub (fun _ _ => rfl) ?_
    refine EV_local he rfl rfl rfl ?_
    refine EV_int ⟨_, 1, .int 4, rfl, rfl, rfl, ?_⟩
    refine EV_List ?_
    refine EVs_cons rfl ?_
    refine EV_globInt he rfl rfl rfl ?_
    refine EVs_cons rfl ?_
    refine EV_globInt he rfl rfl rfl ?_
    refine EVs_nil ⟨by simp, fun l hl => ?_⟩
    refine OP_notInD (ys := intl [1, 2]) (dys := [1, 2].map PyData.int) (by omega) (.int 4) (upd_same _ _ _) (VDs_intl _ _) (okD_int 4) (lay_intl _) ⟨_, rfl, ?_⟩
    rw [any_int, if_pos (by decide)]
    refine EX_cons ?_
    refine EX_Return ?_
    refine EV_bool ?_
    exact h _ ((Keep.refl _ _).updNew hl _)
  | bin o a b =>
    obtain ⟨m, rfl⟩ : ∃ m, n = m + 1 := by cases n with | zero => exact ht.elim | succ m => exact ⟨m, rfl⟩
    obtain ⟨hta, htb⟩ := ht
    refine TR_Compare rfl (EV_Sub (fun _ _ => rfl) (EV_local he rfl rfl rfl (EV_int ⟨_, 0, .str "s", rfl, rfl, rfl, EV_str (OP_nes ⟨_, rfl, ?_⟩)⟩)))
    rw [if_neg (by decide)]
    refine EX_nil (EX_cons (EX_If (TR_Compare rfl (EV_Sub (fun _ _ => rfl) (EV_local he rfl rfl rfl (EV_int ⟨_, 1, .int (opI o), rfl, rfl, rfl, EV_globInt he rfl rfl rfl (OP_eq ⟨_, rfl, ?_⟩)⟩))))))
    rw [opI_arrow]
    by_cases ho : o = 2
    · rw [if_pos (by simp [ho])]
      have e1 : (Tm.bin o a b).cutS = b.cutS := if_pos ho
      rw [e1] at h
      refine EX_cons ?_
      refine EX_Return ?_
      refine EV_fcall (f := 429) he rfl rfl rfl rfl rfl rfl rfl ?_
      refine EVs_cons rfl ?_
      refine EV_Sub (fun _ _ => rfl) ?_
      refine EV_Sub (fun _ _ => rfl) ?_
      refine EV_local he rfl rfl rfl ?_
      refine EV_int ⟨_, 2, .tup [a.toV q, b.toV q], rfl, rfl, rfl, ?_⟩
      refine EV_int ⟨_, 1, b.toV q, rfl, rfl, rfl, ?_⟩
      refine EVs_nil ?_
      exact ih m rfl (d := e) hd'.symm (by omega) htb h
    · rw [if_neg (by simp [ho])]
      have e1 : (Tm.bin o a b).cutS = (a.cutS || b.cutS) := if_neg ho
      rw [e1] at h
      refine EX_nil ?_
      refine EX_cons ?_
      refine EX_If ?_
      refine TR_Compare rfl ?_
      refine EV_Sub (fun _ _ => rfl) ?_
      refine EV_local he rfl rfl rfl ?_
      refine EV_int ⟨_, 1, .int (opI o), rfl, rfl, rfl, ?_⟩
      refine EV_List ?_
      refine EVs_cons rfl ?_
      refine EV_globInt he rfl rfl rfl ?_
      refine EVs_cons rfl ?_
      refine EV_globInt he rfl rfl rfl ?_
      refine EVs_nil ⟨by simp, fun l hl => ?_⟩
      refine OP_notInD (ys := intl [1, 2]) (dys := [1, 2].map PyData.int) (by omega) (.int (opI o)) (upd_same _ _ _) (VDs_intl _ _) (okD_int _) (lay_intl _) ⟨_, rfl, ?_⟩
      rw [any_int, if_neg (opI_cs ho)]
      refine EX_nil ?_
      refine EX_cons ?_
      refine EX_Return ?_
      refine EV_or ?_
      refine EV_fcall (f := 429) he rfl rfl rfl rfl rfl rfl rfl ?_
      refine EVs_cons rfl ?_
      refine EV_Sub (fun _ _ => rfl) ?_
      refine EV_Sub (fun _ _ => rfl) ?_
      refine EV_local he rfl rfl rfl ?_
      refine EV_int ⟨_, 2, .tup [a.toV q, b.toV q], rfl, rfl, rfl, ?_⟩
      refine EV_int ⟨_, 0, a.toV q, rfl, rfl, rfl, ?_⟩
      refine EVs_nil ?_
      have kl : Keep [] σ (upd σ l (.list (intl [1, 2]))) := (Keep.refl _ _).updNew hl _
      refine ih m rfl (d := e) hd'.symm (by omega) hta fun σ2 k2 => ?_
      refine OPb_bool ?_
      have kk : Keep [] σ σ2 := kl.trans k2
      cases hc : a.cutS with
      | true =>
        rw [if_pos rfl]
        have r := h σ2 kk
        rw [hc] at r
        exact r
      | false =>
        rw [if_neg (by decide)]
        refine EV_one ?_
        refine EV_fcall (f := 429) he rfl rfl rfl rfl rfl rfl rfl ?_
        refine EVs_cons rfl ?_
        refine EV_Sub (fun _ _ => rfl) ?_
        refine EV_Sub (fun _ _ => rfl) ?_
        refine EV_local he rfl rfl rfl ?_
        refine EV_int ⟨_, 2, .tup [a.toV q, b.toV q], rfl, rfl, rfl, ?_⟩
        refine EV_int ⟨_, 1, b.toV q, rfl, rfl, rfl, ?_⟩
        refine EVs_nil ?_
        refine ih m rfl (d := e) hd'.symm (by omega) htb fun σ3 k3 => ?_
        have r := h σ3 (kk.trans k3)
        rw [hc] at r
        exact r
theorem c_cutst {q : Int} (hq : q ≠ 1 ∧ q ≠ 2 ∧ q ≠ 3) (n : Nat) : ∀ {c : Cx w (hd2.heap_39 w.params)} {ρ : Loc} {σ : St} {Q : V → St → Prop} {d : Nat} (hd : d + 1 = c.d) (hdd : 110 + n ≤ d) {t : Tm} (ht : t.ok n) (h : ∀ σ', Keep [] σ σ' → Q (.bool t.cutS) σ'), CF prog c 429 [t.toV q] ρ σ Q := by
  induction n with
  | zero =>
    intro c ρ σ Q d hd hdd t ht h
    exact c_cutst0 hq 0 (fun m hm => absurd hm (Nat.succ_ne_zero m)) hd hdd ht h
  | succ m ih =>
    intro c ρ σ Q d hd hdd t ht h
    exact c_cutst0 hq (m + 1) (fun k hk => by obtain rfl : k = m := Nat.succ.inj hk; exact ih) hd hdd ht h
theorem c_numg0 {q : Int} (hq : q ≠ 1 ∧ q ≠ 2 ∧ q ≠ 3) (n : Nat) (ih : ∀ m, m + 1 = n → ∀ {c : Cx w (hd2.heap_39 w.params)} {ρ : Loc} {σ : St} {Q : V → St → Prop} {d : Nat} (hd : d + 1 = c.d) (hdd : 110 + m ≤ d) {t : Tm} (ht : t.ok m) (h : ∀ σ', Keep [] σ σ' → Q (.bool t.numG) σ'), CF prog c 436 [t.toV q] ρ σ Q)
   {d : Nat} (hd : d + 1 = c.d) (hdd : 110 + n ≤ d) {t : Tm} (ht : t.ok n) (h : ∀ σ', Keep [] σ σ' → Q (.bool t.numG) σ') : CF prog c 436 [t.toV q] ρ σ Q := by
  refine CF_K (names := ["term"]) (hl := rfl) (d := d) hd rfl rfl (all1 fun a => by kernel_rfl) rfl (by decide) (by decide) (by decide) rfl rfl rfl fun c' hd' he => ?_
  obtain ⟨e, rfl⟩ : ∃ e, d = e + 1 := ⟨d - 1, by omega⟩
  refine EX_cons ?_
  refine EX_If ?_
  refine TR_and ?_
  cases t with
  | cut =>
    refine TR_Compare rfl (EV_Sub (fun _ _ => rfl) (EV_local he rfl rfl rfl (EV_int ⟨_, 0, .str "a", rfl, rfl, rfl, EV_str (OP_eqs ⟨_, rfl, ?_⟩)⟩)))
    rw [if_neg (by decide)]
    rw [if_neg (by decide)]
    refine EX_nil ?_
    refine EX_cons ?_
    refine EX_Return ?_
    refine EV_Compare rfl ?_
    refine EV_Sub (fun _ _ => rfl) ?_
    refine EV_local he rfl rfl rfl ?_
    refine EV_int ⟨_, 0, .str "a", rfl, rfl, rfl, ?_⟩
    refine EV_str (OP_eqs ?_)
    exact h _ (Keep.refl _ _)
  | v k =>
    refine TR_Compare rfl (EV_Sub (fun _ _ => rfl) (EV_local he rfl rfl rfl (EV_int ⟨_, 0, .str "v", rfl, rfl, rfl, EV_str (OP_eqs ⟨_, rfl, ?_⟩)⟩)))
    rw [if_neg (by decide)]
    rw [if_neg (by decide)]
    refine EX_nil ?_
    refine EX_cons ?_
    refine EX_Return ?_
    refine EV_Compare rfl ?_
    refine EV_Sub (fun _ _ => rfl) ?_
    refine EV_local he rfl rfl rfl ?_
    refine EV_int ⟨_, 0, .str "v", rfl, rfl, rfl, ?_⟩
    refine EV_str (OP_eqs ?_)
    exact h _ (Keep.refl _ _)
  | i k =>
    refine TR_Compare rfl (EV_Sub (fun _ _ => rfl) (EV_local he rfl rfl rfl (EV_int ⟨_, 0, .str "i", rfl, rfl, rfl, EV_str (OP_eqs ⟨_, rfl, ?_⟩)⟩)))
    rw [if_neg (by decide)]
    rw [if_neg (by decide)]
    refine EX_nil ?_
    refine EX_cons ?_
    refine EX_Return ?_
    refine EV_Compare rfl ?_
    refine EV_Sub (fun _ _ => rfl) ?_
    refine EV_local he rfl rfl rfl ?_
    refine EV_int ⟨_, 0, .str "i", rfl, rfl, rfl, ?_⟩
    refine EV_str (OP_eqs ?_)
    exact h _ (Keep.refl _ _)
  | q k =>
    refine TR_Compare rfl (EV_Sub (fun _ _ => rfl) (EV_local he rfl rfl rfl (EV_int ⟨_, 0, .str "s", rfl, rfl, rfl, EV_str (OP_eqs ⟨_, rfl, ?_⟩)⟩)))
    rw [if_pos (by decide)]
    refine TR_and ?_
    refine TR_Compare rfl ?_
    refine EV_Sub (fun _ _ => rfl) ?_
    refine EV_local he rfl rfl rfl ?_
    refine EV_int ⟨_, 1, .int q, rfl, rfl, rfl, ?_⟩
    refine EV_List ?_
    refine EVs_cons rfl ?_
    refine EV_globInt he rfl rfl rfl ?_
    refine EVs_cons rfl ?_
    refine EV_globInt he rfl rfl rfl ?_
    refine EVs_cons rfl ?_
    refine EV_globInt he rfl rfl rfl ?_
    refine EVs_nil ⟨by simp, fun l hl => ?_⟩
    refine OP_inD (ys := intl [1, 2, 3]) (dys := [1, 2, 3].map PyData.int) (by omega) (.int q) (upd_same _ _ _) (VDs_intl _ _) (okD_int q) (lay_intl _) ⟨_, rfl, ?_⟩
    rw [any_int, if_neg (by simp; exact hq)]
    rw [if_neg (by decide)]
    refine EX_nil ?_
    refine EX_cons ?_
    refine EX_Return ?_
    refine EV_Compare rfl ?_
    refine EV_Sub (fun _ _ => rfl) ?_
    refine EV_local he rfl rfl rfl ?_
    refine EV_int ⟨_, 0, .str "s", rfl, rfl, rfl, ?_⟩
    refine EV_str (OP_eqs ?_)
    exact h _ ((Keep.refl _ _).updNew hl _)
  | neg b =>
    refine TR_Compare rfl (EV_Sub (fun _ _ => rfl) (EV_local he rfl rfl rfl (EV_int ⟨_, 0, .str "s", rfl, rfl, rfl, EV_str (OP_eqs ⟨_, rfl, ?_⟩)⟩)))
    rw [if_pos (by decide)]
    refine TR_and ?_
    refine TR_Compare rfl ?_
    refine EV_Sub (fun _ _ => rfl) ?_
    refine EV_local he rfl rfl rfl ?_
    refine EV_int ⟨_, 1, .int 4, rfl, rfl, rfl, ?_⟩
    refine EV_List ?_
    refine EVs_cons rfl ?_
    refine EV_globInt he rfl rfl rfl ?_
    refine EVs_cons rfl ?_
    refine EV_globInt he rfl rfl rfl ?_
    refine EVs_cons rfl ?_
    refine EV_globInt he rfl rfl rfl ?_
    refine EVs_nil ⟨by simp, fun l hl => ?_⟩
    refine OP_inD (ys := intl [1, 2, 3]) (dys := [1, 2, 3].map PyData.int) (by omega) (.int 4) (upd_same _ _ _) (VDs_intl _ _) (okD_int 4) (lay_intl _) ⟨_, rfl, ?_⟩
    rw [any_int, if_neg (by decide)]
    rw [if_neg (by decide)]
    refine EX_nil ?_
    refine EX_cons ?_
    refine EX_Return ?_
    refine EV_Compare rfl ?_
    refine EV_Sub (fun _ _ => rfl) ?_
    refine EV_local he rfl rfl rfl ?_
    refine EV_int ⟨_, 0, .str "s", rfl, rfl, rfl, ?_⟩
    refine EV_str (OP_eqs ?_)
    exact h _ ((Keep.refl _ _).updNew hl _)
  | bin o a b =>
    obtain ⟨m, rfl⟩ : ∃ m, n = m + 1 := by cases n with | zero => exact ht.elim | succ m => exact ⟨m, rfl⟩
    obtain ⟨hta, htb⟩ := ht
    refine TR_Compare rfl (EV_Sub (fun _ _ => rfl) (EV_local he rfl rfl rfl (EV_int ⟨_, 0, .str "s", rfl, rfl, rfl, EV_str (OP_eqs ⟨_, rfl, ?_⟩)⟩)))
    rw [if_pos (by decide)]
    refine TR_and ?_
    refine TR_Compare rfl ?_
    refine EV_Sub (fun _ _ => rfl) ?_
    refine EV_local he rfl rfl rfl ?_
    refine EV_int ⟨_, 1, .int (opI o), rfl, rfl, rfl, ?_⟩
    refine EV_List ?_
    refine EVs_cons rfl ?_
    refine EV_globInt he rfl rfl rfl ?_
    refine EVs_cons rfl ?_
    refine EV_globInt he rfl rfl rfl ?_
    refine EVs_cons rfl ?_
    refine EV_globInt he rfl rfl rfl ?_
    refine EVs_nil ⟨by simp, fun l hl => ?_⟩
    refine OP_inD (ys := intl [1, 2, 3]) (dys := [1, 2, 3].map PyData.int) (by omega) (.int (opI o)) (upd_same _ _ _) (VDs_intl _ _) (okD_int _) (lay_intl _) ⟨_, rfl, ?_⟩
    rw [any_int, if_pos (opI_all o)]
    refine TR_and0 ?_
    rw [if_pos rfl]
    have kl : Keep [] σ (upd σ l (.list (intl [1, 2, 3]))) := (Keep.refl _ _).updNew hl _
    refine EX_cons ?_
    refine EX_Return ?_
    refine EV_or ?_
    refine EV_fcall (f := 436) he rfl rfl rfl rfl rfl rfl rfl ?_
    refine EVs_cons rfl ?_
    refine EV_Sub (fun _ _ => rfl) ?_
    refine EV_Sub (fun _ _ => rfl) ?_
    refine EV_local he rfl rfl rfl ?_
    refine EV_int ⟨_, 2, .tup [a.toV q, b.toV q], rfl, rfl, rfl, ?_⟩
    refine EV_int ⟨_, 0, a.toV q, rfl, rfl, rfl, ?_⟩
    refine EVs_nil ?_
    refine ih m rfl (d := e) hd'.symm (by omega) hta fun σ2 k2 => ?_
    refine OPb_bool ?_
    have kk : Keep [] σ σ2 := kl.trans k2
    have e1 : (Tm.bin o a b).numG = (a.numG || b.numG) := rfl
    rw [e1] at h
    cases hc : a.numG with
    | true =>
      rw [if_pos rfl]
      have r := h σ2 kk
      rw [hc] at r
      exact r
    | false =>
      rw [if_neg (by decide)]
      refine EV_one ?_
      refine EV_fcall (f := 436) he rfl rfl rfl rfl rfl rfl rfl ?_
      refine EVs_cons rfl ?_
      refine EV_Sub (fun _ _ => rfl) ?_
      refine EV_Sub (fun _ _ => rfl) ?_
      refine EV_local he rfl rfl rfl ?_
      refine EV_int ⟨_, 2, .tup [a.toV q, b.toV q], rfl, rfl, rfl, ?_⟩
      refine EV_int ⟨_, 1, b.toV q, rfl, rfl, rfl, ?_⟩
      refine EVs_nil ?_
      refine ih m rfl (d := e) hd'.symm (by omega) htb fun σ3 k3 => ?_
      have r := h σ3 (kk.trans k3)
      rw [hc] at r
      exact r
theorem c_numg {q : Int} (hq : q ≠ 1 ∧ q ≠ 2 ∧ q ≠ 3) (n : Nat) : ∀ {c : Cx w (hd2.heap_39 w.params)} {ρ : Loc} {σ : St} {Q : V → St → Prop} {d : Nat} (hd : d + 1 = c.d) (hdd : 110 + n ≤ d) {t : Tm} (ht : t.ok n) (h : ∀ σ', Keep [] σ σ' → Q (.bool t.numG) σ'), CF prog c 436 [t.toV q] ρ σ Q := by
  induction n with
  | zero =>
    intro c ρ σ Q d hd hdd t ht h
    exact c_numg0 hq 0 (fun m hm => absurd hm (Nat.succ_ne_zero m)) hd hdd ht h
  | succ m ih =>
    intro c ρ σ Q d hd hdd t ht h
    exact c_numg0 hq (m + 1) (fun k hk => by obtain rfl : k = m := Nat.succ.inj hk; exact ih) hd hdd ht h
theorem c_test {q : Int} (hq : q ≠ 1 ∧ q ≠ 2 ∧ q ≠ 3) {n : Nat} {d : Nat} (hd : d + 2 = c.d) (hdd : 110 + n ≤ d) {t : Tm} (ht : t.ok n) (k : Int) (h : ∀ σ' D, σ D = none → Keep [] σ σ' → σ' D = some (.list (testV q k t)) → Q (.loc D) σ') : CF prog c 443 [t.toV q, .int k] ρ σ Q := by
  refine CF_K (names := ["term", "coming"]) (hl := rfl) (d := d + 1) hd rfl rfl (all2 fun a b => by kernel_rfl) rfl (by decide) (by decide) (by decide) rfl rfl rfl fun c' hd' he => ?_
  refine EX_cons ?_
  refine EX_If ?_
  refine TR_plain rfl ?_
  refine EV_fcall (f := 429) he rfl rfl rfl rfl rfl rfl rfl ?_
  refine EVs_cons rfl ?_
  refine EV_local he rfl rfl rfl ?_
  refine EVs_nil ?_
  refine c_cutst hq n (d := d) hd'.symm hdd ht fun σ1 k1 => ?_
  refine OPb_bool ?_
  by_cases hc : t.cutS = true
  · rw [if_pos hc]
    have e2 : testV q k t = [.tup [.str "mark", .int k], .tup [.str "body", t.toV q, .int k]] := if_pos hc
    rw [e2] at h
    refine EX_cons ?_
    refine EX_Return ?_
    refine EV_List ?_
    refine EVs_cons rfl ?_
    refine EV_Tuple ?_
    refine EVs_str ?_
    refine EVs_cons rfl ?_
    refine EV_local he rfl rfl rfl ?_
    refine EVs_nil ⟨by simp, ?_⟩
    refine EVs_cons rfl ?_
    refine EV_Tuple ?_
    refine EVs_str ?_
    refine EVs_cons rfl ?_
    refine EV_local he rfl rfl rfl ?_
    refine EVs_cons rfl ?_
    refine EV_local he rfl rfl rfl ?_
    refine EVs_nil ⟨by simp, ?_⟩
    refine EVs_nil ⟨by simp, fun D hD => ?_⟩
    exact h _ D (k1.none hD (by simp)) (k1.updNew hD _) (upd_same _ _ _)
  · rw [if_neg hc]
    have e2 : testV q k t = [.tup [.str "body", t.toV q, .int (-1)]] := if_neg hc
    rw [e2] at h
    refine EX_nil ?_
    refine EX_cons ?_
    refine EX_Return ?_
    refine EV_List ?_
    refine EVs_cons rfl ?_
    refine EV_Tuple ?_
    refine EVs_str ?_
    refine EVs_cons rfl ?_
    refine EV_local he rfl rfl rfl ?_
    refine EVs_cons rfl ?_
    refine EV_globInt he rfl rfl rfl ?_
    refine EVs_nil ⟨by simp, ?_⟩
    refine EVs_nil ⟨by simp, fun D hD => ?_⟩
    exact h _ D (k1.none hD (by simp)) (k1.updNew hD _) (upd_same _ _ _)
end
end RH
set_option Elab.async false
set_option maxRecDepth 100000
set_option maxHeartbeats 4000000
set_option linter.all false
namespace RH
open PySem PySem.W PySem.Calls PyProof.Rows
mutual
theorem VD.keep {σ σ' : St} (k : Keep [] σ σ') : ∀ {v : V} {d : PyData}, VD σ v d → VD σ' v d
  | _, _, .none => .none
  | _, _, .bool b => .bool b
  | _, _, .int i => .int i
  | _, _, .str s => .str s
  | _, _, .tup r => .tup (VDs.keep k r)
  | _, _, .loc h r => .loc (k _ _ h (by simp)) (VDs.keep k r)
theorem VDs.keep {σ σ' : St} (k : Keep [] σ σ') : ∀ {v : List V} {d : List PyData}, VDs σ v d → VDs σ' v d
  | _, _, .nil => .nil
  | _, _, .cons a r => .cons (VD.keep k a) (VDs.keep k r)
end
theorem okOwn : okD (.tuple [.str "own"]) = true := okD_tup (n := 4) (by
  have : PyData.strOk "own" = true := by decide +kernel
  simp [PyData.canLayAll0, PyData.canLay0, this]) (by simp [PyData.depthAll, PyData.depth]) (by decide)
theorem eqv_own1 {x : PyData} {a : Str} {r : List PyData} : PyData.eqv (.tuple (.str a :: x :: r)) (.tuple [.str "own"]) = false := by
  cases r <;> simp [PyData.eqv, PyData.eqvAll]
theorem eqv_own2 {x : PyData} {a : Str} {r : List PyData} : PyData.eqv (.tuple (.str a :: x :: r)) (.tuple [.str "own"]) = false := eqv_own1
theorem tms_data (σ : St) (q : Int) {n : Nat} {l : List Tm} (h : ∀ p ∈ l, p.ok n) : VDs σ (l.map (Tm.toV q)) (dsOf (l.map (Tm.toV q))) ∧ PyData.canLayAll0 (dsOf (l.map (Tm.toV q))) = true ∧ PyData.depthAll (dsOf (l.map (Tm.toV q))) ≤ 2 * n + 3 :=
  good_VDs σ _ _ (List.all_eq_true.mpr fun v hv => by
    obtain ⟨p, hp, rfl⟩ := List.mem_map.mp hv
    exact Tm.good q n p (h p hp))
theorem eqv_empty (l : List V) : PyData.eqv (.list (dsOf l)) (.list []) = l.isEmpty := by
  cases l <;> simp [dsOf, PyData.eqv, PyData.eqvAll]
section
variable {prog : Program} {w : World} {c : Cx w (hd2.heap_39 w.params)} {ρ : Loc} {σ : St} {Q : V → St → Prop}
theorem c_folded {q : Int} (hq : q ≠ 1 ∧ q ≠ 2 ∧ q ≠ 3) {m : Nat} (hm : m ≤ 100) {d : Nat} (hd : d + 3 = c.d) (hdd : 110 + m ≤ d) {B : Addr} {vs : List V} {tg n : Int} {ps : List Tm} (hps : ∀ p ∈ ps, p.ok m) (hne : ps ≠ []) (hlen : ps.length ≤ 100000) (hB : σ B = some (.list vs)) (hR : Rows σ B vs (bodsV q tg n ps))
   (h : ∀ σ', Keep [] σ σ' → Q (.tup [(joinT ps).toV q, .int (endN n ps)]) σ') : CF prog c 450 [.loc B, .int tg, .int n] ρ σ Q := by
  refine CF_K (names := ["bodies", "target", "coming"]) (hl := rfl) (d := d + 2) hd rfl rfl (all3 fun a b c => by kernel_rfl) rfl (by decide) (by decide) (by decide) rfl rfl rfl fun c' hd' he => ?_
  refine EX_cons ?_
  refine EX_Name he rfl rfl ?_
  refine EV_List ?_
  refine EVs_nil ⟨by simp, fun F hF => ?_⟩
  have k1 : Keep [] σ (upd σ F (.list [])) := (Keep.refl _ _).updNew hF _
  have hF1 : upd σ F (.list []) F = some (.list []) := upd_same _ _ _
  generalize upd σ F (.list []) = σ1 at k1 hF1
  have hB1 := k1 _ _ hB (by simp)
  have hR1 := Rows.keep k1 (by simp) hR
  have hBF : B ≠ F := neF hB hF
  refine EX_cons ?_
  refine EX_For he rfl (fun _ => rfl) ?_
  refine EV_local he rfl rfl rfl ⟨_, _, .list hB1, ?_⟩
  refine FB_run (fun us ρ σ' => ∃ (r : List Tm) (n' : Int) (done : List Tm), Sub [("target", .int tg), ("folded", .loc F), ("coming", .int n')] ρ ∧ Rows σ B us (bodsV q tg n' r) ∧ done ++ r = ps ∧ endN n' r = endN n ps ∧ Keep [F] σ σ' ∧ σ' F = some (.list (done.map (Tm.toV q))) ∧ (∀ b o, σ b = some o → σ' b = some o))
    (fun ρ σ' => Sub [("target", .int tg), ("folded", .loc F), ("coming", .int (endN n ps))] ρ ∧ Keep [F] σ σ' ∧ σ' F = some (.list (ps.map (Tm.toV q)))) ?_ ?_ ?_
    ⟨ps, n, [], .cons rfl (.cons rfl (.cons rfl .nil)), hR, rfl, rfl, k1.wide (by simp), hF1, fun b o e => k1 _ _ e (by simp)⟩
  · rintro v us ρ3 σ3 ⟨r, n', done, hs, hR3, hd1, he1, k3, hF3, kk3⟩
    cases r with
    | nil => cases hR3
    | cons p r =>
    simp only [bodsV] at hR3
    cases hR3 with
    | @cons I _ it _ hI0 hIB hR3 =>
    have hI3 := kk3 _ _ hI0
    have hpo : p.ok m := hps p (by rw [← hd1]; simp)
    have hdl : done.length ≤ 100000 := by
      have := congrArg List.length hd1
      simp at this; omega
    have hIF : I ≠ F := neF hI0 hF
    refine EX.sub (ρ' := lset [("target", .int tg), ("folded", .loc F), ("coming", .int n')] "items" (.loc I)) (Sub.both hs) ?_
    have next : ∀ ρ4 σ4, Keep [F] σ3 σ4 → σ4 F = some (.list (done.map (Tm.toV q) ++ [p.toV q])) → Sub [("target", .int tg), ("folded", .loc F), ("coming", .int (markN n' p))] ρ4 → (σ4 B = some (.list vs)) ∧ ∃ (r : List Tm) (n' : Int) (done : List Tm), Sub [("target", .int tg), ("folded", .loc F), ("coming", .int n')] ρ4 ∧ Rows σ B us (bodsV q tg n' r) ∧ done ++ r = ps ∧ endN n' r = endN n ps ∧ Keep [F] σ σ4 ∧ σ4 F = some (.list (done.map (Tm.toV q))) ∧ (∀ b o, σ b = some o → σ4 b = some o) := by
      intro ρ4 σ4 k4 hF4 hs4
      have kk4 : ∀ b o, σ b = some o → σ4 b = some o := fun b o e => k4 _ _ (kk3 _ _ e) (by simp; exact neF e hF)
      refine ⟨kk4 _ _ hB, r, markN n' p, done ++ [p], hs4, hR3, by rw [← hd1]; simp, by rw [← he1]; rfl, k3.trans k4, by rw [hF4]; simp, kk4⟩
    have okOwn := okOwn
    have plain : itemsV q tg n' p = [bodyV q p tg] → markN n' p = n' → EX prog c' (execs ?rest ?env) (lset [("target", .int tg), ("folded", .loc F), ("coming", .int n')] "items" (.loc I)) σ3 ?post := ?_
    · cases p with
      | cut => exact plain rfl rfl
      | v k => exact plain rfl rfl
      | i k => exact plain rfl rfl
      | q k => exact plain rfl rfl
      | neg b => exact plain rfl rfl
      | bin o b e =>
        by_cases ho : o = 2
        · obtain ⟨m', rfl⟩ : ∃ k, m = k + 1 := by cases m with | zero => exact hpo.elim | succ k => exact ⟨k, rfl⟩
          have hb : b.ok (m' + 1) := Tm.ok_mono hpo.1 (Nat.le_succ _)
          have hee : e.ok (m' + 1) := Tm.ok_mono hpo.2 (Nat.le_succ _)
          generalize m' + 1 = m at hm hdd hps hpo hb hee
          have e1 : itemsV q tg n' (.bin o b e) = testV q n' b ++ [ownV, bodyV q e tg] := if_pos ho
          have e2 : markN n' (.bin o b e) = testN n' b := if_pos ho
          by_cases hc : b.cutS = true
          · have etv : testV q n' b = [.tup [.str "mark", .int n'], .tup [.str "body", b.toV q, .int n']] := if_pos hc
            have etn : testN n' b = n' + 1 := if_pos hc

            have eit : itemsV q tg n' (.bin o b e) = [.tup [.str "mark", .int n'], bodyV q b n', ownV, bodyV q e tg] := by
              rw [e1, etv]; rfl
            rw [eit] at hI3
            have hgb : ∀ (x : Tm) (k : Int), x.ok m → RH.good (2 * m + 4) (bodyV q x k) = true := fun x k hx => good_tup3 (n := 2 * m + 3) (good_str _ (sok (by decide +kernel))) (Tm.good q m x hx) (good_int _ _)
            have hgo : RH.good (2 * m + 4) ownV = true := good_tup (n := 2 * m + 3) fun v hv => by
              simp at hv; subst hv
              exact good_str _ (sok (by decide +kernel))
            have hgm : RH.good (2 * m + 4) (.tup [.str "mark", .int n']) = true := good_tup2 (n := 2 * m + 3) (good_str _ (sok (by decide +kernel))) (good_int _ _)
            obtain ⟨v1, v2, v3⟩ := good_VDs σ3 (2 * m + 4) [.tup [.str "mark", .int n'], bodyV q b n', ownV, bodyV q e tg] (by simp [hgb b _ hb, hgb e _ hee, hgo, hgm])
            obtain ⟨t1, t2, t3⟩ := good_VDs σ3 (2 * m + 4) [.tup [.str "mark", .int n'], .tup [.str "body", b.toV q, .int n']] (by
              have := hgb b n' hb
              unfold bodyV at this
              simp [this, hgm])
            refine EX_cons ?_
            refine EX_If ?_
            refine TR_Compare rfl ?_
            refine EV_Tuple ?_
            refine EVs_str ?_
            refine EVs_nil ⟨by simp, ?_⟩
            refine EV_local he rfl rfl rfl ?_
            refine OP_notInD (by omega) (.tup (.cons (.str _) .nil)) hI3 v1 okOwn v2 ⟨_, rfl, ?_⟩
            rw [if_neg (by simp [ownV, bodyV, dOf, dsOf, PyData.eqv, PyData.eqvAll])]
            refine EX_nil ?_
            refine EX_cons ?_
            refine EX_Name he rfl rfl ?_
            refine EV_index rfl rfl rfl rfl rfl ?_
            refine EV_local he rfl rfl rfl ?_
            refine ⟨I, rfl, ⟨_, hI3⟩, ?_⟩
            refine EV_Tuple ?_
            refine EVs_str ?_
            refine EVs_nil ⟨by simp, ?_⟩
            refine OP_index (j := 2) (by omega) (.tup (.cons (.str _) .nil)) hI3 v1 okOwn v2 (by simp) ⟨_, rfl, by simp [ownV, dOf, dsOf, PyData.eqv, PyData.eqvAll]⟩ ?_ ?_
            · intro j d hj hdj
              match j, hj with
              | 0, _ => cases hdj; exact eqv_own1
              | 1, _ => cases hdj; exact eqv_own2
            refine EX_cons ?_
            refine EX_If ?_
            refine TR_or ?_
            refine TR_Compare rfl (EV_local he rfl rfl rfl (EV_int (OP_eq ⟨_, rfl, ?_⟩)))
            rw [if_neg (by decide)]
            refine TR_or ?_
            refine TR_Compare rfl ?_
            refine EV_bcall (x := "len") he rfl rfl rfl rfl (by decide) rfl rfl rfl ?_
            refine EVs_cons rfl ?_
            refine EV_local he rfl rfl rfl ?_
            refine EVs_nil ?_
            refine OP_len_list hI3 (by simp) ?_
            refine EV_BinOp ?_
            refine EV_local he rfl rfl rfl ?_
            refine EV_int ?_
            refine OP_add ?_
            refine OP_ne ⟨_, rfl, ?_⟩
            rw [if_neg (by simp)]
            refine TR_or ?_
            refine TR_Compare rfl ?_
            refine EV_Sub (fun _ _ => rfl) ?_
            refine EV_Sub (fun _ _ => rfl) ?_
            refine EV_local he rfl rfl rfl ?_
            refine EV_BinOp ?_
            refine EV_local he rfl rfl rfl ?_
            refine EV_int ?_
            refine OP_sub ?_
            refine ⟨_, _, bodyV q b n', seqOf_loc' hI3, rfl, rfl, ?_⟩
            refine EV_int ⟨_, 0, .str "body", rfl, rfl, rfl, ?_⟩
            refine EV_str (OP_nes ⟨_, rfl, ?_⟩)
            rw [if_neg (by decide)]
            refine TR_or0 ?_
            rw [if_neg (by decide)]
            refine EX_nil ?_
            refine EX_cons ?_
            refine EX_Name he rfl rfl ?_
            refine EV_Sub (fun _ _ => rfl) ?_
            refine EV_Sub (fun _ _ => rfl) ?_
            refine EV_local he rfl rfl rfl ?_
            refine EV_BinOp ?_
            refine EV_local he rfl rfl rfl ?_
            refine EV_int ?_
            refine OP_sub ?_
            refine ⟨_, _, bodyV q b n', seqOf_loc' hI3, rfl, rfl, ?_⟩
            refine EV_int ⟨_, 1, b.toV q, rfl, rfl, rfl, ?_⟩
            refine EX_cons ?_
            refine EX_If ?_
            refine TR_or ?_
            refine TR_Compare rfl ?_
            refine EV_Upto (fun _ _ => rfl) ?_
            refine EV_local he rfl rfl rfl ?_
            refine EV_local he rfl rfl rfl ⟨I, _, (2 : Nat), rfl, hI3, by simp, rfl, by decide, fun U hU => ?_⟩
            refine EV_fcall (f := 443) he rfl rfl rfl rfl rfl rfl rfl ?_
            refine EVs_cons rfl ?_
            refine EV_local he rfl rfl rfl ?_
            refine EVs_cons rfl ?_
            refine EV_local he rfl rfl rfl ?_
            refine EVs_nil ?_
            refine c_test hq (n := m) (d := d) (by omega) (by omega) hb n' fun σ4 W hW k4 hW4 => ?_
            rw [etv] at hW4
            have hU4 := k4 _ _ (upd_same _ _ _) (by simp)
            have kU : Keep [] σ3 σ4 := ((Keep.refl _ _).updNew hU _).trans k4
            have hI4 := kU _ _ hI3 (by simp)
            have okT : okD (.list (dsOf [.tup [.str "mark", .int n'], .tup [.str "body", b.toV q, .int n']])) = true := okD_list t2 t3 (by omega)
            refine OP_neD (by omega) (.loc hU4 (t1.keep kU)) (.loc hW4 (t1.keep kU)) okT okT ⟨_, rfl, ?_⟩
            rw [eqv_ok okT, if_neg (by decide)]
            refine TR_or ?_
            refine TR_Compare rfl ?_
            refine EV_Sub (fun _ _ => rfl) ?_
            refine EV_local he rfl rfl rfl ?_
            refine EV_BinOp ?_
            refine EV_local he rfl rfl rfl ?_
            refine EV_int ?_
            refine OP_add ?_
            refine ⟨_, _, bodyV q e tg, seqOf_loc' hI4, rfl, rfl, ?_⟩
            refine EV_Tuple ?_
            refine EVs_str ?_
            refine EVs_cons rfl ?_
            refine EV_Sub (fun _ _ => rfl) ?_
            refine EV_Sub (fun _ _ => rfl) ?_
            refine EV_local he rfl rfl rfl ?_
            refine EV_BinOp ?_
            refine EV_local he rfl rfl rfl ?_
            refine EV_int ?_
            refine OP_add ?_
            refine ⟨_, _, bodyV q e tg, seqOf_loc' hI4, rfl, rfl, ?_⟩
            refine EV_int ⟨_, 1, e.toV q, rfl, rfl, rfl, ?_⟩
            refine EVs_cons rfl ?_
            refine EV_local he rfl rfl rfl ?_
            refine EVs_nil ⟨by simp, ?_⟩
            obtain ⟨b1, b2, b3⟩ := good_VD σ4 _ _ (hgb e tg hee)
            have okB : okD (dOf (bodyV q e tg)) = true := okD_of b2 b3 (by omega)
            refine OP_neD (by omega) b1 b1 okB okB ⟨_, rfl, ?_⟩
            rw [eqv_ok okB, if_neg (by decide)]
            refine TR_or0 ?_
            rw [if_neg (by decide)]
            refine EX_nil ?_
            refine EX_cons ?_
            refine EX_Aug (i := n') he rfl rfl ?_
            refine EV_BinOp ?_
            refine EV_local he rfl rfl rfl ?_
            refine EV_int ?_
            refine OP_sub ?_
            refine ⟨_, rfl, ?_⟩
            have hF4 := kU _ _ hF3 (by simp)
            refine EX_cons ?_
            refine EX_Expr rfl rfl ?_
            refine EV_append rfl rfl rfl rfl rfl ?_
            refine EV_local he rfl rfl rfl ⟨F, rfl, ⟨_, hF4⟩, ?_⟩
            refine EV_Tuple ?_
            refine EVs_str ?_
            refine EVs_cons rfl ?_
            refine EV_globInt he rfl rfl rfl ?_
            refine EVs_cons rfl ?_
            refine EV_Tuple ?_
            refine EVs_cons rfl ?_
            refine EV_local he rfl rfl rfl ?_
            refine EVs_cons rfl ?_
            refine EV_Sub (fun _ _ => rfl) ?_
            refine EV_Sub (fun _ _ => rfl) ?_
            refine EV_local he rfl rfl rfl ?_
            refine EV_BinOp ?_
            refine EV_local he rfl rfl rfl ?_
            refine EV_int ?_
            refine OP_add ?_
            refine ⟨_, _, bodyV q e tg, seqOf_loc' hI4, rfl, rfl, ?_⟩
            refine EV_int ⟨_, 1, e.toV q, rfl, rfl, rfl, ?_⟩
            refine EVs_nil ⟨by simp, ?_⟩
            refine EVs_nil ⟨by simp, ?_⟩
            refine ⟨_, hF4, by simp; omega, ?_⟩
            refine EX_nil ?_
            refine next _ _ ((kU.wide (by simp)).updIn (.head _) _) ?_ (.cons rfl (.cons rfl (.cons ?_ .nil)))
            · refine (upd_same _ _ _).trans ?_
              rw [ho]
              rfl
            · rw [e2, etn]
              show some (V.int _) = some (V.int _)
              congr 2 <;> omega

          · have etv : testV q n' b = [.tup [.str "body", b.toV q, .int (-1)]] := if_neg hc
            have etn : testN n' b = n' := if_neg hc

            have eit : itemsV q tg n' (.bin o b e) = [bodyV q b (-1), ownV, bodyV q e tg] := by
              rw [e1, etv]; rfl
            rw [eit] at hI3
            have hgb : ∀ (x : Tm) (k : Int), x.ok m → RH.good (2 * m + 4) (bodyV q x k) = true := fun x k hx => good_tup3 (n := 2 * m + 3) (good_str _ (sok (by decide +kernel))) (Tm.good q m x hx) (good_int _ _)
            have hgo : RH.good (2 * m + 4) ownV = true := good_tup (n := 2 * m + 3) fun v hv => by
              simp at hv; subst hv
              exact good_str _ (sok (by decide +kernel))
            have hgm : RH.good (2 * m + 4) (.tup [.str "mark", .int n']) = true := good_tup2 (n := 2 * m + 3) (good_str _ (sok (by decide +kernel))) (good_int _ _)
            obtain ⟨v1, v2, v3⟩ := good_VDs σ3 (2 * m + 4) [bodyV q b (-1), ownV, bodyV q e tg] (by simp [hgb b _ hb, hgb e _ hee, hgo, hgm])
            obtain ⟨t1, t2, t3⟩ := good_VDs σ3 (2 * m + 4) [.tup [.str "body", b.toV q, .int (-1)]] (by
              have := hgb b (-1) hb
              unfold bodyV at this
              simp [this, hgm])
            refine EX_cons ?_
            refine EX_If ?_
            refine TR_Compare rfl ?_
            refine EV_Tuple ?_
            refine EVs_str ?_
            refine EVs_nil ⟨by simp, ?_⟩
            refine EV_local he rfl rfl rfl ?_
            refine OP_notInD (by omega) (.tup (.cons (.str _) .nil)) hI3 v1 okOwn v2 ⟨_, rfl, ?_⟩
            rw [if_neg (by simp [ownV, bodyV, dOf, dsOf, PyData.eqv, PyData.eqvAll])]
            refine EX_nil ?_
            refine EX_cons ?_
            refine EX_Name he rfl rfl ?_
            refine EV_index rfl rfl rfl rfl rfl ?_
            refine EV_local he rfl rfl rfl ?_
            refine ⟨I, rfl, ⟨_, hI3⟩, ?_⟩
            refine EV_Tuple ?_
            refine EVs_str ?_
            refine EVs_nil ⟨by simp, ?_⟩
            refine OP_index (j := 1) (by omega) (.tup (.cons (.str _) .nil)) hI3 v1 okOwn v2 (by simp) ⟨_, rfl, by simp [ownV, dOf, dsOf, PyData.eqv, PyData.eqvAll]⟩ ?_ ?_
            · intro j d hj hdj
              match j, hj with
              | 0, _ => cases hdj; exact eqv_own1

            refine EX_cons ?_
            refine EX_If ?_
            refine TR_or ?_
            refine TR_Compare rfl (EV_local he rfl rfl rfl (EV_int (OP_eq ⟨_, rfl, ?_⟩)))
            rw [if_neg (by decide)]
            refine TR_or ?_
            refine TR_Compare rfl ?_
            refine EV_bcall (x := "len") he rfl rfl rfl rfl (by decide) rfl rfl rfl ?_
            refine EVs_cons rfl ?_
            refine EV_local he rfl rfl rfl ?_
            refine EVs_nil ?_
            refine OP_len_list hI3 (by simp) ?_
            refine EV_BinOp ?_
            refine EV_local he rfl rfl rfl ?_
            refine EV_int ?_
            refine OP_add ?_
            refine OP_ne ⟨_, rfl, ?_⟩
            rw [if_neg (by simp)]
            refine TR_or ?_
            refine TR_Compare rfl ?_
            refine EV_Sub (fun _ _ => rfl) ?_
            refine EV_Sub (fun _ _ => rfl) ?_
            refine EV_local he rfl rfl rfl ?_
            refine EV_BinOp ?_
            refine EV_local he rfl rfl rfl ?_
            refine EV_int ?_
            refine OP_sub ?_
            refine ⟨_, _, bodyV q b (-1), seqOf_loc' hI3, rfl, rfl, ?_⟩
            refine EV_int ⟨_, 0, .str "body", rfl, rfl, rfl, ?_⟩
            refine EV_str (OP_nes ⟨_, rfl, ?_⟩)
            rw [if_neg (by decide)]
            refine TR_or0 ?_
            rw [if_neg (by decide)]
            refine EX_nil ?_
            refine EX_cons ?_
            refine EX_Name he rfl rfl ?_
            refine EV_Sub (fun _ _ => rfl) ?_
            refine EV_Sub (fun _ _ => rfl) ?_
            refine EV_local he rfl rfl rfl ?_
            refine EV_BinOp ?_
            refine EV_local he rfl rfl rfl ?_
            refine EV_int ?_
            refine OP_sub ?_
            refine ⟨_, _, bodyV q b (-1), seqOf_loc' hI3, rfl, rfl, ?_⟩
            refine EV_int ⟨_, 1, b.toV q, rfl, rfl, rfl, ?_⟩
            refine EX_cons ?_
            refine EX_If ?_
            refine TR_or ?_
            refine TR_Compare rfl ?_
            refine EV_Upto (fun _ _ => rfl) ?_
            refine EV_local he rfl rfl rfl ?_
            refine EV_local he rfl rfl rfl ⟨I, _, (1 : Nat), rfl, hI3, by simp, rfl, by decide, fun U hU => ?_⟩
            refine EV_fcall (f := 443) he rfl rfl rfl rfl rfl rfl rfl ?_
            refine EVs_cons rfl ?_
            refine EV_local he rfl rfl rfl ?_
            refine EVs_cons rfl ?_
            refine EV_local he rfl rfl rfl ?_
            refine EVs_nil ?_
            refine c_test hq (n := m) (d := d) (by omega) (by omega) hb n' fun σ4 W hW k4 hW4 => ?_
            rw [etv] at hW4
            have hU4 := k4 _ _ (upd_same _ _ _) (by simp)
            have kU : Keep [] σ3 σ4 := ((Keep.refl _ _).updNew hU _).trans k4
            have hI4 := kU _ _ hI3 (by simp)
            have okT : okD (.list (dsOf [.tup [.str "body", b.toV q, .int (-1)]])) = true := okD_list t2 t3 (by omega)
            refine OP_neD (by omega) (.loc hU4 (t1.keep kU)) (.loc hW4 (t1.keep kU)) okT okT ⟨_, rfl, ?_⟩
            rw [eqv_ok okT, if_neg (by decide)]
            refine TR_or ?_
            refine TR_Compare rfl ?_
            refine EV_Sub (fun _ _ => rfl) ?_
            refine EV_local he rfl rfl rfl ?_
            refine EV_BinOp ?_
            refine EV_local he rfl rfl rfl ?_
            refine EV_int ?_
            refine OP_add ?_
            refine ⟨_, _, bodyV q e tg, seqOf_loc' hI4, rfl, rfl, ?_⟩
            refine EV_Tuple ?_
            refine EVs_str ?_
            refine EVs_cons rfl ?_
            refine EV_Sub (fun _ _ => rfl) ?_
            refine EV_Sub (fun _ _ => rfl) ?_
            refine EV_local he rfl rfl rfl ?_
            refine EV_BinOp ?_
            refine EV_local he rfl rfl rfl ?_
            refine EV_int ?_
            refine OP_add ?_
            refine ⟨_, _, bodyV q e tg, seqOf_loc' hI4, rfl, rfl, ?_⟩
            refine EV_int ⟨_, 1, e.toV q, rfl, rfl, rfl, ?_⟩
            refine EVs_cons rfl ?_
            refine EV_local he rfl rfl rfl ?_
            refine EVs_nil ⟨by simp, ?_⟩
            obtain ⟨b1, b2, b3⟩ := good_VD σ4 _ _ (hgb e tg hee)
            have okB : okD (dOf (bodyV q e tg)) = true := okD_of b2 b3 (by omega)
            refine OP_neD (by omega) b1 b1 okB okB ⟨_, rfl, ?_⟩
            rw [eqv_ok okB, if_neg (by decide)]
            refine TR_or0 ?_
            rw [if_neg (by decide)]
            refine EX_nil ?_
            refine EX_cons ?_
            refine EX_Aug (i := n') he rfl rfl ?_
            refine EV_BinOp ?_
            refine EV_local he rfl rfl rfl ?_
            refine EV_int ?_
            refine OP_sub ?_
            refine ⟨_, rfl, ?_⟩
            have hF4 := kU _ _ hF3 (by simp)
            refine EX_cons ?_
            refine EX_Expr rfl rfl ?_
            refine EV_append rfl rfl rfl rfl rfl ?_
            refine EV_local he rfl rfl rfl ⟨F, rfl, ⟨_, hF4⟩, ?_⟩
            refine EV_Tuple ?_
            refine EVs_str ?_
            refine EVs_cons rfl ?_
            refine EV_globInt he rfl rfl rfl ?_
            refine EVs_cons rfl ?_
            refine EV_Tuple ?_
            refine EVs_cons rfl ?_
            refine EV_local he rfl rfl rfl ?_
            refine EVs_cons rfl ?_
            refine EV_Sub (fun _ _ => rfl) ?_
            refine EV_Sub (fun _ _ => rfl) ?_
            refine EV_local he rfl rfl rfl ?_
            refine EV_BinOp ?_
            refine EV_local he rfl rfl rfl ?_
            refine EV_int ?_
            refine OP_add ?_
            refine ⟨_, _, bodyV q e tg, seqOf_loc' hI4, rfl, rfl, ?_⟩
            refine EV_int ⟨_, 1, e.toV q, rfl, rfl, rfl, ?_⟩
            refine EVs_nil ⟨by simp, ?_⟩
            refine EVs_nil ⟨by simp, ?_⟩
            refine ⟨_, hF4, by simp; omega, ?_⟩
            refine EX_nil ?_
            refine next _ _ ((kU.wide (by simp)).updIn (.head _) _) ?_ (.cons rfl (.cons rfl (.cons ?_ .nil)))
            · refine (upd_same _ _ _).trans ?_
              rw [ho]
              rfl
            · rw [e2, etn]
              show some (V.int _) = some (V.int _)
              congr 2 <;> omega

        · exact plain (if_neg ho) (if_neg ho)
    · intro e1 e2
      rw [e1] at hI3
      obtain ⟨v1, v2, v3⟩ := good_VDs σ3 (2 * m + 4) [bodyV q p tg] (by
        have : RH.good (2 * m + 4) (bodyV q p tg) = true := good_tup3 (n := 2 * m + 3) (good_str _ (sok (by decide +kernel))) (Tm.good q m p hpo) (good_int _ _)
        simp [this])
      refine EX_cons ?_
      refine EX_If ?_
      refine TR_Compare rfl ?_
      refine EV_Tuple ?_
      refine EVs_str ?_
      refine EVs_nil ⟨by simp, ?_⟩
      refine EV_local he rfl rfl rfl ?_
      refine OP_notInD (by omega) (.tup (.cons (.str _) .nil)) hI3 v1 okOwn v2 ⟨_, rfl, ?_⟩
      rw [if_pos (by simp [bodyV, dOf, dsOf, PyData.eqv, PyData.eqvAll])]
      refine EX_cons ?_
      refine EX_If ?_
      refine TR_or ?_
      refine TR_Compare rfl ?_
      refine EV_bcall (x := "len") he rfl rfl rfl rfl (by decide) rfl rfl rfl ?_
      refine EVs_cons rfl ?_
      refine EV_local he rfl rfl rfl ?_
      refine EVs_nil ?_
      refine OP_len_list hI3 (by simp) ?_
      refine EV_int ?_
      refine OP_ne ⟨_, rfl, ?_⟩
      rw [if_neg (by simp)]
      refine TR_or ?_
      refine TR_Compare rfl ?_
      refine EV_Sub (fun _ _ => rfl) ?_
      refine EV_Sub (fun _ _ => rfl) ?_
      refine EV_local he rfl rfl rfl ?_
      refine EV_int ⟨_, 0, bodyV q p tg, seqOf_loc' hI3, rfl, rfl, ?_⟩
      refine EV_int ⟨_, 0, .str "body", rfl, rfl, rfl, ?_⟩
      refine EV_str (OP_nes ⟨_, rfl, ?_⟩)
      rw [if_neg (by decide)]
      refine TR_or ?_
      refine TR_Compare rfl ?_
      refine EV_Sub (fun _ _ => rfl) ?_
      refine EV_Sub (fun _ _ => rfl) ?_
      refine EV_local he rfl rfl rfl ?_
      refine EV_int ⟨_, 0, bodyV q p tg, seqOf_loc' hI3, rfl, rfl, ?_⟩
      refine EV_int ⟨_, 2, .int tg, rfl, rfl, rfl, ?_⟩
      refine EV_local he rfl rfl rfl ?_
      refine OP_ne ⟨_, rfl, ?_⟩
      rw [if_neg (by simp)]
      refine TR_or0 ?_
      rw [if_neg (by decide)]
      refine EX_nil ?_
      refine EX_cons ?_
      refine EX_Expr rfl rfl ?_
      refine EV_append rfl rfl rfl rfl rfl ?_
      refine EV_local he rfl rfl rfl ⟨F, rfl, ⟨_, hF3⟩, ?_⟩
      refine EV_Sub (fun _ _ => rfl) ?_
      refine EV_Sub (fun _ _ => rfl) ?_
      refine EV_local he rfl rfl rfl ?_
      refine EV_int ⟨_, 0, bodyV q p tg, seqOf_loc' hI3, rfl, rfl, ?_⟩
      refine EV_int ⟨_, 1, p.toV q, rfl, rfl, rfl, ?_⟩
      refine ⟨_, hF3, by simp; omega, ?_⟩
      refine EX_cons ?_
      refine EX_Continue ?_
      refine next _ _ ((Keep.refl _ _).updIn (.head _) _) (upd_same _ _ _) (.cons rfl (.cons rfl (.cons ?_ .nil)))
      rw [e2]
      rfl
  · rintro ρ3 σ3 ⟨r, n', done, hs, hR3, hd1, he1, k3, hF3, kk3⟩
    cases r with
    | cons p r => simp only [bodsV] at hR3; cases hR3
    | nil =>
      simp only [List.append_nil] at hd1
      subst hd1
      have he1' : n' = endN n done := he1
      subst he1'
      exact ⟨hs, k3, hF3⟩
  · rintro ρ3 σ3 ⟨hs, k3, hF3⟩
    refine EX.sub hs ?_
    obtain ⟨pr0, x, rfl⟩ : ∃ pre x, ps = pre ++ [x] := ⟨ps.dropLast, ps.getLast hne, (List.dropLast_concat_getLast hne).symm⟩
    have hF3' : σ3 F = some (.list (pr0.map (Tm.toV q) ++ [x.toV q])) := by rw [hF3]; simp
    have hpl : pr0.length ≤ 100000 := by simp at hlen; omega
    refine EX_cons ?_
    refine EX_Name he rfl rfl ?_
    refine EV_pop rfl rfl ?_
    refine EV_local he rfl rfl rfl ⟨F, _, _, rfl, hF3', by simp; omega, ?_⟩
    have hF4 : upd σ3 F (.list (pr0.map (Tm.toV q))) F = _ := upd_same _ _ _
    have k4 : Keep [F] σ (upd σ3 F (.list (pr0.map (Tm.toV q)))) := k3.updIn (.head _) _
    generalize upd σ3 F (.list (pr0.map (Tm.toV q))) = σ4 at hF4 k4
    refine EX_cons ?_
    refine EX_While ?_
    show WH prog c' ?wt ?wb ?we _ _ ?wQ
    refine (fun (key : ∀ (l : Nat) {pre rest : List Tm} {ρ : Loc} {σ1 : St}, pre.length < l → pre.length ≤ 100000 → (∀ p ∈ pre, p.ok m) → rest ≠ [] → joinT (pre ++ rest) = joinT (pr0 ++ [x]) → σ1 F = some (.list (pre.map (Tm.toV q))) → Sub [("folded", .loc F), ("coming", .int (endN n (pr0 ++ [x]))), ("whole", (joinT rest).toV q)] ρ → Keep [F] σ σ1 → WH prog c' ?wt ?wb ?we ρ σ1 ?wQ) => key _ (pre := pr0) (rest := [x]) (Nat.lt_succ_self _) hpl (fun p hp => hps p (by simp [hp])) (by simp) rfl hF4 (.cons rfl (.cons rfl (.cons rfl .nil))) k4) ?_
    clear hF4 k4 hpl hF3' hF3 k3 hs
    intro l
    induction l with
    | zero => intro pre' rest ρ σ1 hl; omega
    | succ l ih =>
    intro pre' rest ρ σ1 hl hl2 hok hrest hj hF1 hs k1
    refine WH.sub (ρ' := [("folded", .loc F), ("coming", .int (endN n (pr0 ++ [x]))), ("whole", (joinT rest).toV q)]) hs ?_
    refine WH_step ?_
    refine TR_Compare rfl ?_
    refine EV_local he rfl rfl rfl ?_
    refine EV_List ?_
    refine EVs_nil ⟨by simp, fun E hE => ?_⟩
    obtain ⟨v1, v2, v3⟩ := tms_data (upd σ1 E (.list [])) q hok
    have kE : Keep [] σ1 (upd σ1 E (.list [])) := (Keep.refl _ _).updNew hE _
    have hF2 := kE _ _ hF1 (by simp)
    refine OP_neD (by omega) (.loc hF2 v1) (.loc (upd_same _ _ _) .nil) (okD_list v2 v3 (by omega)) (by decide) ⟨_, rfl, ?_⟩
    rw [eqv_empty]
    have k2 : Keep [F] σ (upd σ1 E (.list [])) := k1.trans (kE.wide (by simp))
    generalize upd σ1 E (.list []) = σ2 at hF2 k2
    rcases List.eq_nil_or_concat pre' with hnil | ⟨p2, y, hcat⟩
    · subst hnil
      rw [if_neg (by simp)]
      refine EX_cons ?_
      refine EX_Return ?_
      refine EV_Tuple ?_
      refine EVs_cons rfl ?_
      refine EV_local he rfl rfl rfl ?_
      refine EVs_cons rfl ?_
      refine EV_local he rfl rfl rfl ?_
      refine EVs_nil ⟨by simp, ?_⟩
      rw [List.nil_append] at hj
      have r := h σ2 (k2.drop hF)
      rw [← hj] at r
      exact r
    · rw [List.concat_eq_append] at hcat
      subst hcat
      rw [if_pos (by simp)]
      have hF2' : σ2 F = some (.list (p2.map (Tm.toV q) ++ [y.toV q])) := by rw [hF2]; simp
      simp only [List.length_append, List.length_cons, List.length_nil] at hl hl2
      refine EX_cons ?_
      refine EX_Name he rfl rfl ?_
      refine EV_Tuple ?_
      refine EVs_str ?_
      refine EVs_cons rfl ?_
      refine EV_globInt he rfl rfl rfl ?_
      refine EVs_cons rfl ?_
      refine EV_Tuple ?_
      refine EVs_cons rfl ?_
      refine EV_pop rfl rfl ?_
      refine EV_local he rfl rfl rfl ⟨F, _, _, rfl, hF2', by simp; omega, ?_⟩
      refine EVs_cons rfl ?_
      refine EV_local he rfl rfl rfl ?_
      refine EVs_nil ⟨by simp, ?_⟩
      refine EVs_nil ⟨by simp, ?_⟩
      refine EX_nil ?_
      have ej : joinT (y :: rest) = .bin 1 y (joinT rest) := by
        cases rest with
        | nil => exact absurd rfl hrest
        | cons a b => rfl
      refine ih (pre := p2) (rest := y :: rest) (by omega) (by omega) (fun p hp => hok p (by simp [hp])) (by simp) (by rw [← hj]; simp) (upd_same _ _ _) (.cons rfl (.cons rfl (.cons ?_ .nil))) (k2.updIn (.head _) _)
      rw [ej]
      rfl
end
end RH
set_option Elab.async false
set_option maxRecDepth 100000
set_option maxHeartbeats 4000000
set_option linter.all false
namespace RH
open PySem PySem.W PySem.Calls PyProof.Rows
def tabP : Pos := { line := 146, col := 4, endLine := 149, endCol := 32 }
def tabQ : Str := "renumber.<locals>.change"
theorem TabIs.keep {σ σ' : St} {P : Addr} {pos : Pos} {q : Str} {S : List Addr} (h : TabIs P pos q σ) (k : Keep S σ σ') (n : ∀ a ∈ S, ∀ o, σ a ≠ some (.raw o)) : TabIs P pos q σ' := by
  cases h with
  | new h => exact .new (k _ _ h fun m => n _ m _ h)
  | old h1 h2 h3 h4 h5 => exact .old (k _ _ h1 fun m => n _ m _ h1) (k _ _ h2 fun m => n _ m _ h2) h3 h4 h5
theorem cells_tab (L n : Nat) {pos : Pos} {q : Str} : TabIs 185 pos q (cells L n) := .new (if_pos rfl)
theorem symS0_ne (w : World) : (symS0 w).1.isEmpty = false ∧ (symS0 w).2.isEmpty = false := ⟨by kernel_rfl, by kernel_rfl⟩
theorem symS0_eq (w : World) : symS0 w = symF (atomsB (bodyAt (hd2.heap_39 w.params) 28)) (rowsB (bodyAt (hd2.heap_39 w.params) 35)) := by
  delta symS0
  exact Eq.refl _
/-- coins, symbols, the table -/
structure W2 (w : World) (σ : St) (A : Addr) (cs : List Int) (x dx a1 a2 a3 a4 : Addr) : Prop where
  a : σ A = some (.list (intl cs.reverse))
  sy : SyQ w σ x dx a1 a2 a3 a4
  tab : TabIs 185 tabP tabQ σ
  ne : A ≠ a1 ∧ A ≠ a3
theorem W2.keepL {w : World} {σ σ' : St} {A : Addr} {cs : List Int} {x dx a1 a2 a3 a4 : Addr} {S : List Addr} (h : W2 w σ A cs x dx a1 a2 a3 a4) (k : Keep S σ σ') (n : ∀ b ∈ S, (∃ l, σ b = some (.list l)) ∨ σ b = none) (n0 : A ∉ S) (n1 : a1 ∉ S) (n3 : a3 ∉ S) : W2 w σ' A cs x dx a1 a2 a3 a4 where
  a := k _ _ h.a n0
  sy := by
    obtain ⟨S', hS, hA⟩ := h.sy.ex
    refine ⟨S', hS, ⟨k _ _ hA.x ?_, k _ _ hA.ns ?_, k _ _ hA.o1 n1, k _ _ hA.o2 ?_, k _ _ hA.o3 n3, k _ _ hA.o4 ?_, hA.ne⟩⟩
    · intro m
      rcases n _ m with ⟨l, e⟩ | e <;> rw [hA.x] at e <;> cases e
    · intro m
      rcases n _ m with ⟨l, e⟩ | e <;> rw [hA.ns] at e <;> cases e
    · intro m
      rcases n _ m with ⟨l, e⟩ | e <;> rw [hA.o2] at e <;> cases e
    · intro m
      rcases n _ m with ⟨l, e⟩ | e <;> rw [hA.o4] at e <;> cases e
  tab := h.tab.keep k fun b m o => by
    rcases n _ m with ⟨l, e⟩ | e <;> rw [e] <;> simp
  ne := h.ne
theorem W2.keep0 {w : World} {σ σ' : St} {A : Addr} {cs : List Int} {x dx a1 a2 a3 a4 : Addr} (h : W2 w σ A cs x dx a1 a2 a3 a4) (k : Keep [] σ σ') : W2 w σ' A cs x dx a1 a2 a3 a4 := h.keepL k (by simp) (by simp) (by simp) (by simp)
theorem W2.coin {w : World} {σ σ' : St} {A : Addr} {cs cs' : List Int} {x dx a1 a2 a3 a4 : Addr} (h : W2 w σ A cs x dx a1 a2 a3 a4) (k : Keep [A] σ σ') (ha : σ' A = some (.list (intl cs'.reverse))) : W2 w σ' A cs' x dx a1 a2 a3 a4 where
  a := ha
  sy := h.sy.keep k (inA h.a) (by simp; exact Ne.symm h.ne.1) (by simp; exact Ne.symm h.ne.2)
  tab := h.tab.keep k (by simp [h.a])
  ne := h.ne
theorem W2.part {w : World} {σ σ' : St} {A : Addr} {cs cs' : List Int} {x dx a1 a2 a3 a4 : Addr} (h : W2 w σ A cs x dx a1 a2 a3 a4) (k : Keep [A, a1, a2, a3, a4] σ σ') (ha : σ' A = some (.list (intl cs'.reverse))) (hs : SyQ w σ' x dx a1 a2 a3 a4) : W2 w σ' A cs' x dx a1 a2 a3 a4 where
  a := ha
  sy := hs
  tab := by
    obtain ⟨S', hS, hA⟩ := h.sy.ex
    exact h.tab.keep k (by simp [h.a, hA.o1, hA.o2, hA.o3, hA.o4])
  ne := h.ne
theorem W2.notP {w : World} {σ : St} {A P : Addr} {cs : List Int} {x dx a1 a2 a3 a4 : Addr} (h : W2 w σ A cs x dx a1 a2 a3 a4) {l : List V} (hP : σ P = some (.list l)) (n1 : P ≠ a1) (n3 : P ≠ a3) (n0 : P ≠ A) : P ∉ [A, a1, a2, a3, a4] := by
  obtain ⟨S', hS, hA⟩ := h.sy.ex
  simp
  refine ⟨n0, n1, fun z => ?_, n3, fun z => ?_⟩
  · have := hA.o2; rw [← z, hP] at this; cases this
  · have := hA.o4; rw [← z, hP] at this; cases this
theorem joinT_ok {n : Nat} : ∀ {l : List Tm}, (∀ p ∈ l, p.ok n) → (joinT l).ok (n + l.length)
  | [], _ => by cases n <;> trivial
  | [t], h => Tm.ok_mono (h t (.head _)) (by simp)
  | t :: a :: r, h => by
    have := joinT_ok (l := a :: r) fun p hp => h p (.tail _ hp)
    refine ⟨Tm.ok_mono (h t (.head _)) (by simp), ?_⟩
    exact this
theorem spine_ok {n : Nat} : ∀ {t : Tm}, t.ok n → ∀ p ∈ t.spine, p.ok n
  | .q _, h, p, hp => by simp [Tm.spine] at hp; subst hp; exact h
  | .cut, h, p, hp => by simp [Tm.spine] at hp; subst hp; exact h
  | .v _, h, p, hp => by simp [Tm.spine] at hp; subst hp; exact h
  | .i _, h, p, hp => by simp [Tm.spine] at hp; subst hp; exact h
  | .neg _, h, p, hp => by simp [Tm.spine] at hp; subst hp; exact h
  | .bin o l r, h, p, hp => by
    unfold Tm.spine at hp
    split at hp
    · cases n with
      | zero => exact h.elim
      | succ n =>
        rcases List.mem_cons.mp hp with z | z
        · subst z; exact Tm.ok_mono h.1 (Nat.le_succ _)
        · exact spine_ok (t := r) (Tm.ok_mono h.2 (Nat.le_succ _)) p z
    · simp at hp; subst hp; exact h
theorem qN_ne (w : World) : qN w ≠ 1 ∧ qN w ≠ 2 ∧ qN w ≠ 3 := by rw [qN_val]; decide
section
variable {prog : Program} {w : World} {c : Cx w (hd2.heap_39 w.params)}
theorem law2_seg1 {name qual : Str} {params : Arguments} {body : List Stmt} {scope : Scope} {dV kV doc pm cdv ct : Value} {an : Option Addr} {fo : Obj} (hl : (hd2.heap_39 w.params).lookup 457 = some fo)
    (hfd : fo.data = .func (fnX name qual params body scope [] dV kV doc pm an cdv ct)) {nm : Str} {fa : Addr} {cd : Value} (hd : c.d = 494) {x : Addr} {xs : List Int} (hG : Given c x xs) (hz : xs.length ≤ 63) {Q : Fl → Loc → St → Prop} {σ : St} (ht : TabIs 185 tabP tabQ σ)
    (next : ∀ ρ' σ' S (W D : Tm) n tg, Sub [("signs", S), ("first", .int n), ("whole", W.toV (qN w)), ("target", .int tg), ("denied", D.toV (qN w))] ρ' → W.ok 8 → D.ok 2 → TabIs 185 tabP tabQ σ' → EX prog c (execs (body.drop 9) (envOf nm scope c.L fa cd)) ρ' σ' Q) :
    EX prog c (execs body (envOf nm scope c.L fa cd)) [("script", .loc x)] σ Q := by
  have he0 : scope.kind = .function → EnvOk c (envOf nm scope c.L fa cd) := fun h => ⟨rfl, h, rfl, rfl⟩
  obtain rfl := Option.some.inj (hl.symm.trans rfl)
  cases hfd
  have he := he0 rfl
  refine EX_cons ?_
  refine EX_Name he rfl rfl ?_
  refine EV_fcall (f := 408) he rfl rfl rfl rfl rfl rfl rfl ?_
  refine EVs_cons rfl ?_
  refine EV_local he rfl rfl rfl ?_
  refine EVs_nil ?_
  refine c_coinsG (d := 493) (by omega) (by decide) (by omega) hG fun A cs0 σ1 hAn k1 hA hcs => ?_
  obtain ⟨cs, rfl⟩ : ∃ cs : List Int, cs0 = cs.reverse := ⟨cs0.reverse, by simp⟩
  have hcs : cs.length ≤ 1000 := by simpa using hcs
  have ht1 := ht.keep k1 (by simp)
  -- signs
  refine EX_cons ?_
  refine EX_Name he rfl rfl ?_
  refine EV_fcall0 (f := 122) he rfl rfl rfl rfl rfl ?_
  refine c_Symbols (d := 490) (by omega) (by decide) fun σ2 y dx a1 a2 a3 a4 _ k2 hA2 => ?_
  have e0 : symF (atomsB (bodyAt (hd2.heap_39 w.params) 28)) (rowsB (bodyAt (hd2.heap_39 w.params) 35)) = symS0 w := (symS0_eq w).symm
  rw [e0] at hA2
  have hAA := k2 _ _ hA (by simp)
  have W : W2 w σ2 A cs y dx a1 a2 a3 a4 := {
    a := hAA
    sy := ⟨symS0 w, .inl rfl, hA2⟩
    tab := ht1.keep k2 (by simp)
    ne := by
      obtain ⟨n1, n2⟩ := symS0_ne w
      constructor
      · intro z
        have := hA2.o1
        rw [← z, hAA] at this
        cases q : (symS0 w).1 with
        | nil => rw [q] at n1; cases n1
        | cons s r =>
          rw [q] at this
          cases q2 : cs.reverse with
          | nil => rw [q2] at this; cases this
          | cons i r' => rw [q2] at this; cases this
      · intro z
        have := hA2.o3
        rw [← z, hAA] at this
        cases q : (symS0 w).2 with
        | nil => rw [q] at n2; cases n2
        | cons s r =>
          rw [q] at this
          cases q2 : cs.reverse with
          | nil => rw [q2] at this; cases this
          | cons i r' => rw [q2] at this; cases this }
  clear hA2 hAA k2 ht1 k1 hA
  -- first
  refine EX_cons ?_
  refine EX_Name he rfl rfl ?_
  refine EV_BinOp ?_
  refine EV_int ?_
  refine EV_fcall (f := 415) he rfl rfl rfl rfl rfl rfl rfl ?_
  refine EVs_cons rfl ?_
  refine EV_local he rfl rfl rfl ?_
  refine EVs_int ?_
  refine EVs_nil ?_
  refine c_coin (d := 493) (by omega) (by decide) (by decide) (by omega) W.a fun σ3 k3 ha3 => ?_
  have W3 := W.coin k3 ha3
  refine OP_add ?_
  generalize 10 + coin cs 5 = n
  have hcs3 : cs.tail.length ≤ 1000 := Nat.le_trans (tail_le _) hcs
  generalize cs.tail = cs at W3 hcs3
  clear W k3 ha3
  -- parts
  refine EX_cons ?_
  refine EX_Name he rfl rfl ?_
  refine EV_List ?_
  refine EVs_nil ⟨by simp, fun P hP => ?_⟩
  have kP : Keep [] σ3 (upd σ3 P (.list [])) := (Keep.refl _ _).updNew hP _
  have hP4 : upd σ3 P (.list []) P = some (.list []) := upd_same _ _ _
  have W4 := W3.keep0 kP
  obtain ⟨nP0, nP1, nP3⟩ : P ≠ A ∧ P ≠ a1 ∧ P ≠ a3 := by
    obtain ⟨S', hS, hA0⟩ := W3.sy.ex
    exact ⟨neF' W3.a hP, neF' hA0.o1 hP, neF' hA0.o3 hP⟩
  generalize upd σ3 P (.list []) = σ4 at kP hP4 W4
  clear W3 kP hP
  refine EX_cons ?_
  refine EX_For he rfl (fun _ => rfl) ?_
  refine EV_tcall (x := "range") he rfl rfl rfl rfl (by decide) rfl rfl rfl ?_
  refine EVs_cons rfl ?_
  refine EV_BinOp ?_
  refine EV_int ?_
  refine EV_fcall (f := 415) he rfl rfl rfl rfl rfl rfl rfl ?_
  refine EVs_cons rfl ?_
  refine EV_local he rfl rfl rfl ?_
  refine EVs_int ?_
  refine EVs_nil ?_
  refine c_coin (d := 493) (by omega) (by decide) (by decide) (by omega) W4.a fun σ5 k5 ha5 => ?_
  have W5 := W4.coin k5 ha5
  have hP5 := k5 _ _ hP4 (by simpa using nP0)
  have hp0 := coin_ge cs (n := 4) (by decide)
  have hp1 := coin_lt cs (n := 4) (by decide)
  refine OP_add ?_
  obtain ⟨p, hp, hpp⟩ : ∃ p : Nat, 1 + coin cs 4 = p ∧ 1 ≤ p ∧ p ≤ 4 := ⟨(1 + coin cs 4).toNat, by omega, by omega⟩
  rw [hp]
  have hcs5 : cs.tail.length ≤ 1000 := Nat.le_trans (tail_le _) hcs3
  generalize cs.tail = cs at W5 hcs5 ha5
  clear W4 k5 ha5 hP4
  refine EVs_nil ?_
  refine OP_range fun r t u v hr => ?_
  refine ⟨_, _, .range (n := p) (by omega) (upd_same _ _ _), ?_⟩
  have kr : Keep [] σ5 (upd σ5 r (.raw { cls := .type "range", data := .fields #[.int 0 t, .int (p : Nat) u, .int 1 v] })) := (Keep.refl _ _).updNew hr _
  have W6 := W5.keep0 kr
  have hP6 := kr _ _ hP5 (by simp)
  generalize upd σ5 r (.raw { cls := .type "range", data := .fields #[.int 0 t, .int (p : Nat) u, .int 1 v] }) = σ6 at W6 hP6
  clear W5 hP5 kr hr
  refine FB_run (fun vs ρ σ' => Sub [("coins", .loc A), ("signs", .loc y), ("first", .int n), ("parts", .loc P)] ρ ∧ ∃ (ps : List Tm) (cs : List Int), W2 w σ' A cs y dx a1 a2 a3 a4 ∧ cs.length ≤ 1000 ∧ σ' P = some (.list (ps.map (Tm.toV (qN w)))) ∧ (∀ q ∈ ps, q.ok 3) ∧ ps.length + vs.length = p)
    (fun ρ σ' => Sub [("coins", .loc A), ("signs", .loc y), ("first", .int n), ("parts", .loc P)] ρ ∧ ∃ (ps : List Tm) (cs : List Int), W2 w σ' A cs y dx a1 a2 a3 a4 ∧ cs.length ≤ 1000 ∧ σ' P = some (.list (ps.map (Tm.toV (qN w)))) ∧ (∀ q ∈ ps, q.ok 3) ∧ ps.length = p) ?_ ?_ ?_
    ⟨.cons rfl (.cons rfl (.cons rfl (.cons rfl .nil))), [], cs, W6, hcs5, hP6, by simp, by simp [rangeV]⟩
  · rintro v vs ρ7 σ7 ⟨hs, ps, cs, W7, hcs7, hP7, hps, hlen⟩
    simp only [List.length_cons] at hlen
    refine EX.sub (ρ' := [("coins", .loc A), ("signs", .loc y), ("first", .int n), ("parts", .loc P)]) (Sub.miss hs rfl) ?_
    have fin : ∀ ρ8 σ8 (q : Tm) (cs8 : List Int), Sub [("coins", .loc A), ("signs", .loc y), ("first", .int n), ("parts", .loc P), ("part", q.toV (qN w))] ρ8 → W2 w σ8 A cs8 y dx a1 a2 a3 a4 → cs8.length ≤ 1000 → σ8 P = some (.list (ps.map (Tm.toV (qN w)))) → q.ok 3 → EX prog c (execs ?rest ?env) ρ8 σ8 ?post := ?_
    · refine EX_cons ?_
      refine EX_Name he rfl rfl ?_
      refine EV_Compare rfl ?_
      refine EV_fcall (f := 415) he rfl rfl rfl rfl rfl rfl rfl ?_
      refine EVs_cons rfl ?_
      refine EV_local he rfl rfl rfl ?_
      refine EVs_int ?_
      refine EVs_nil ?_
      refine c_coin (d := 493) (by omega) (by decide) (by decide) (by omega) W7.a fun σ8 k8 ha8 => ?_
      have W8 := W7.coin k8 ha8
      have hP8 := k8 _ _ hP7 (by simpa using nP0)
      have hcs8 : cs.tail.length ≤ 1000 := Nat.le_trans (tail_le _) hcs7
      refine EV_int ?_
      refine OP_eq ?_
      refine EX_cons ?_
      refine EX_Name he rfl rfl ?_
      refine EV_fcall (f := 422) he rfl rfl rfl rfl rfl rfl rfl ?_
      refine EVs_cons rfl ?_
      refine EV_local he rfl rfl rfl ?_
      refine EVs_cons rfl ?_
      refine EV_local he rfl rfl rfl ?_
      refine EVs_int ?_
      refine EVs_nil ?_
      refine c_part 2 (d := 493) (by omega) (by decide) (by omega) W8.a W8.sy W8.ne fun q1 cs9 σ9 hq1 k9 ha9 hcs9 hs9 => ?_
      have W9 := W8.part k9 ha9 hs9
      have hP9 := k9 _ _ hP8 (W8.notP hP8 nP1 nP3 nP0)
      refine EX_cons ?_
      refine EX_If ?_
      refine TR_plain rfl ?_
      refine EV_local he rfl rfl rfl ?_
      refine OPb_bool ?_
      split
      · refine EX_cons ?_
        refine EX_Name he rfl rfl ?_
        refine EV_Tuple ?_
        refine EVs_str ?_
        refine EVs_cons rfl ?_
        refine EV_globInt he rfl rfl rfl ?_
        refine EVs_cons rfl ?_
        refine EV_Tuple ?_
        refine EVs_cons rfl ?_
        refine EV_local he rfl rfl rfl ?_
        refine EVs_cons rfl ?_
        refine EV_fcall (f := 422) he rfl rfl rfl rfl rfl rfl rfl ?_
        refine EVs_cons rfl ?_
        refine EV_local he rfl rfl rfl ?_
        refine EVs_cons rfl ?_
        refine EV_local he rfl rfl rfl ?_
        refine EVs_int ?_
        refine EVs_nil ?_
        refine c_part 2 (d := 493) (by omega) (by decide) (by omega) W9.a W9.sy W9.ne fun q2 cs10 σ10 hq2 k10 ha10 hcs10 hs10 => ?_
        have W10 := W9.part k10 ha10 hs10
        have hP10 := k10 _ _ hP9 (W9.notP hP9 nP1 nP3 nP0)
        refine EVs_nil ⟨by simp, ?_⟩
        refine EVs_nil ⟨by simp, ?_⟩
        refine EX_nil ?_
        refine fin _ _ (.bin 2 q1 q2) cs10 ?_ W10 (by omega) hP10 ⟨hq1, hq2⟩
        exact .cons rfl (.cons rfl (.cons rfl (.cons rfl (.cons rfl .nil))))
      · refine EX_nil ?_
        refine fin _ _ q1 cs9 ?_ W9 (by omega) hP9 (Tm.ok_mono hq1 (by decide))
        exact .cons rfl (.cons rfl (.cons rfl (.cons rfl (.cons rfl .nil))))
    · intro ρ8 σ8 q cs8 hs8 W8 hcs8 hP8 hq
      refine EX.sub hs8 ?_
      refine EX_cons ?_
      refine EX_Expr rfl rfl ?_
      refine EV_append rfl rfl rfl rfl rfl ?_
      refine EV_local he rfl rfl rfl ⟨P, rfl, ⟨_, hP8⟩, ?_⟩
      refine EV_local he rfl rfl rfl ?_
      refine ⟨_, hP8, by simp; omega, ?_⟩
      refine EX_nil ?_
      refine ⟨trivial, .cons rfl (.cons rfl (.cons rfl (.cons rfl .nil))), ps ++ [q], cs8, ?_, hcs8, (upd_same _ _ _).trans (by simp), ?_, by simp; omega⟩
      · exact W8.keepL (S := [P]) ((Keep.refl _ _).updIn (.head _) _) (by simp [hP8]) (by simpa using Ne.symm nP0) (by simpa using Ne.symm nP1) (by simpa using Ne.symm nP3)
      · intro z hz
        rcases List.mem_append.mp hz with h | h
        · exact hps z h
        · simp at h; subst h; exact hq
  · rintro ρ7 σ7 ⟨hs, ps, cs, W7, hcs7, hP7, hps, hlen⟩
    exact ⟨hs, ps, cs, W7, hcs7, hP7, hps, by simpa using hlen⟩
  rintro ρ7 σ7 ⟨hs, ps, cs, W7, hcs7, hP7, hps, hlen⟩
  refine EX.sub hs ?_
  obtain ⟨pr0, u, rfl⟩ : ∃ pre u, ps = pre ++ [u] := ⟨ps.dropLast, ps.getLast (by rintro rfl; simp at hlen; omega), (List.dropLast_concat_getLast (by rintro rfl; simp at hlen; omega)).symm⟩
  have hP7' : σ7 P = some (.list (pr0.map (Tm.toV (qN w)) ++ [u.toV (qN w)])) := by rw [hP7]; simp
  have hpl : pr0.length + 1 ≤ 4 := by simp at hlen; omega
  have hjok : (joinT (pr0 ++ [u])).ok 8 := Tm.ok_mono (joinT_ok hps) (by simp; omega)
  refine EX_cons ?_
  refine EX_Name he rfl rfl ?_
  refine EV_pop rfl rfl ?_
  refine EV_local he rfl rfl rfl ⟨P, _, _, rfl, hP7', by simp; omega, ?_⟩
  have hP8 : upd σ7 P (.list (pr0.map (Tm.toV (qN w)))) P = _ := upd_same _ _ _
  have W8 : W2 w (upd σ7 P (.list (pr0.map (Tm.toV (qN w))))) A cs y dx a1 a2 a3 a4 := W7.keepL (S := [P]) ((Keep.refl _ _).updIn (.head _) _) (by simp [hP7]) (by simpa using Ne.symm nP0) (by simpa using Ne.symm nP1) (by simpa using Ne.symm nP3)
  generalize upd σ7 P (.list (pr0.map (Tm.toV (qN w)))) = σ8 at hP8 W8
  refine EX_cons ?_
  refine EX_While ?_
  show WH prog c ?wt ?wb ?we _ _ ?wQ
  refine (fun (key : ∀ (l : Nat) {pre rest : List Tm} {ρ : Loc} {σ1 : St}, pre.length < l → pre.length ≤ 100 → (∀ p ∈ pre, p.ok 3) → rest ≠ [] → joinT (pre ++ rest) = joinT (pr0 ++ [u]) → σ1 P = some (.list (pre.map (Tm.toV (qN w)))) → Sub [("coins", .loc A), ("signs", .loc y), ("first", .int n), ("parts", .loc P), ("whole", (joinT rest).toV (qN w))] ρ → W2 w σ1 A cs y dx a1 a2 a3 a4 → WH prog c ?wt ?wb ?we ρ σ1 ?wQ) => key _ (pre := pr0) (rest := [u]) (Nat.lt_succ_self _) (by omega) (fun p hp => hps p (by simp [hp])) (by simp) rfl hP8 (.cons rfl (.cons rfl (.cons rfl (.cons rfl (.cons rfl .nil))))) W8) ?_
  clear hP8 W8 hP7' W7 hs
  intro l
  induction l with
  | zero => intro pre' rest ρ σ1 hl; omega
  | succ l ih =>
  intro pre' rest ρ σ1 hl hl2 hok hrest hj hF1 hs W1
  refine WH.sub (ρ' := [("coins", .loc A), ("signs", .loc y), ("first", .int n), ("parts", .loc P), ("whole", (joinT rest).toV (qN w))]) hs ?_
  refine WH_step ?_
  refine TR_Compare rfl ?_
  refine EV_local he rfl rfl rfl ?_
  refine EV_List ?_
  refine EVs_nil ⟨by simp, fun E hE => ?_⟩
  obtain ⟨v1, v2, v3⟩ := tms_data (upd σ1 E (.list [])) (qN w) hok
  have kE : Keep [] σ1 (upd σ1 E (.list [])) := (Keep.refl _ _).updNew hE _
  have hF2 := kE _ _ hF1 (by simp)
  have W2' := W1.keep0 kE
  refine OP_neD (by omega) (.loc hF2 v1) (.loc (upd_same _ _ _) .nil) (okD_list v2 v3 (by decide)) (by decide) ⟨_, rfl, ?_⟩
  rw [eqv_empty]
  generalize upd σ1 E (.list []) = σ2 at hF2 W2'
  rcases List.eq_nil_or_concat pre' with hnil | ⟨p2, z, hcat⟩
  · subst hnil
    rw [if_neg (by simp)]
    rw [List.nil_append] at hj
    rw [hj]
    -- target
    refine EX_cons ?_
    refine EX_Name he rfl rfl ?_
    refine EV_Sub (fun _ _ => rfl) ?_
    refine EV_List ?_
    refine EVs_cons rfl ?_
    refine EV_globInt he rfl rfl rfl ?_
    refine EVs_int ?_
    refine EVs_int ?_
    refine EVs_int ?_
    refine EVs_nil ⟨by simp, fun T hT => ?_⟩
    have kT : Keep [] σ2 (upd σ2 T (.list [.int (-1), .int 0, .int 8, .int 9])) := (Keep.refl _ _).updNew hT _
    have W3 := W2'.keep0 kT
    have hT3 : upd σ2 T (.list [.int (-1), .int 0, .int 8, .int 9]) T = _ := upd_same _ _ _
    have nTA : T ≠ A := neF' W2'.a hT
    generalize upd σ2 T (.list [.int (-1), .int 0, .int 8, .int 9]) = σ3 at W3 hT3
    refine EV_fcall (f := 415) he rfl rfl rfl rfl rfl rfl rfl ?_
    refine EVs_cons rfl ?_
    refine EV_local he rfl rfl rfl ?_
    refine EVs_int ?_
    refine EVs_nil ?_
    refine c_coin (d := 493) (by omega) (by decide) (by decide) (by omega) W3.a fun σ4 k4 ha4 => ?_
    have W4 := W3.coin k4 ha4
    have hT4 := k4 _ _ hT3 (by simpa using nTA)
    obtain ⟨tg, _, hv⟩ := vidx_map V.int [-1, 0, 8, 9] (coin_ge cs (n := 4) (by decide)) (coin_lt cs (n := 4) (by decide)) (by have := coin_lt cs (n := 4) (by decide); omega)
    refine ⟨_, _, _, seqOf_loc' hT4, rfl, hv, ?_⟩
    have hcs4 : cs.tail.length ≤ 1000 := Nat.le_trans (tail_le _) hcs7
    -- denied
    refine EX_cons ?_
    refine EX_Name he rfl rfl ?_
    refine EV_fcall (f := 422) he rfl rfl rfl rfl rfl rfl rfl ?_
    refine EVs_cons rfl ?_
    refine EV_local he rfl rfl rfl ?_
    refine EVs_cons rfl ?_
    refine EV_local he rfl rfl rfl ?_
    refine EVs_int ?_
    refine EVs_nil ?_
    refine c_part 2 (d := 493) (by omega) (by decide) (by omega) W4.a W4.sy W4.ne fun D cs9 σ9 hD k9 ha9 hcs9 hs9 => ?_
    have W9 := W4.part k9 ha9 hs9
    exact next _ _ (.loc y) (joinT (pr0 ++ [u])) D n tg (.cons rfl (.cons rfl (.cons rfl (.cons rfl (.cons rfl .nil))))) hjok hD W9.tab
  · rw [List.concat_eq_append] at hcat
    subst hcat
    rw [if_pos (by simp)]
    have hF2' : σ2 P = some (.list (p2.map (Tm.toV (qN w)) ++ [z.toV (qN w)])) := by rw [hF2]; simp
    simp only [List.length_append, List.length_cons, List.length_nil] at hl hl2
    refine EX_cons ?_
    refine EX_Name he rfl rfl ?_
    refine EV_Tuple ?_
    refine EVs_str ?_
    refine EVs_cons rfl ?_
    refine EV_globInt he rfl rfl rfl ?_
    refine EVs_cons rfl ?_
    refine EV_Tuple ?_
    refine EVs_cons rfl ?_
    refine EV_pop rfl rfl ?_
    refine EV_local he rfl rfl rfl ⟨P, _, _, rfl, hF2', by simp; omega, ?_⟩
    refine EVs_cons rfl ?_
    refine EV_local he rfl rfl rfl ?_
    refine EVs_nil ⟨by simp, ?_⟩
    refine EVs_nil ⟨by simp, ?_⟩
    refine EX_nil ?_
    have ej : joinT (z :: rest) = .bin 1 z (joinT rest) := by
      cases rest with
      | nil => exact absurd rfl hrest
      | cons a b => rfl
    refine ih (pre := p2) (rest := z :: rest) (by omega) (by omega) (fun p hp => hok p (by simp [hp])) (by simp) (by rw [← hj]; simp) (upd_same _ _ _) (.cons rfl (.cons rfl (.cons rfl (.cons rfl (.cons ?_ .nil))))) (W2'.keepL (S := [P]) ((Keep.refl _ _).updIn (.head _) _) (by simp [hF2]) (by simpa using Ne.symm nP0) (by simpa using Ne.symm nP1) (by simpa using Ne.symm nP3))
    rw [ej]
    rfl
end
end RH
set_option Elab.async false
set_option maxRecDepth 100000
set_option maxHeartbeats 4000000
set_option linter.all false
namespace RH
open PySem PySem.W PySem.Calls PyProof.Rows
def dueV (q n : Int) (t : Tm) : List V := if t.numG then [.tup [.str "body", .tup [.str "s", .int 24, .tup [t.toV q]], .int (-1)]] else testV q n t
def dueN (n : Int) (t : Tm) : Int := if t.numG then n else testN n t
theorem due_len (q n : Int) (t : Tm) : (dueV q n t).length ≤ 2 ∧ n + ((dueV q n t).length : Nat) - 1 = dueN n t := by
  unfold dueV dueN testV testN
  split
  · simp <;> omega
  · split <;> simp <;> omega
theorem due_good (q n : Int) {t : Tm} {m : Nat} (h : t.ok m) : ∀ v ∈ dueV q n t ++ [ownV, .tup [.str "fail"]], RH.good (2 * m + 6) v = true := by
  have g0 := Tm.good q m t h
  have gb : ∀ k, RH.good (2 * m + 6) (.tup [.str "body", t.toV q, .int k]) = true := fun k => good_tup3 (n := 2 * m + 5) (good_str _ (sok (by decide +kernel))) (good_mono g0 (by omega)) (good_int _ _)
  have gm : ∀ k, RH.good (2 * m + 6) (.tup [.str "mark", .int k]) = true := fun k => good_tup2 (n := 2 * m + 5) (good_str _ (sok (by decide +kernel))) (good_int _ _)
  have go : RH.good (2 * m + 6) ownV = true := good_tup (n := 2 * m + 5) fun v hv => by
    simp at hv; subst hv
    exact good_str _ (sok (by decide +kernel))
  have gf : RH.good (2 * m + 6) (.tup [.str "fail"]) = true := good_tup (n := 2 * m + 5) fun v hv => by
    simp at hv; subst hv
    exact good_str _ (sok (by decide +kernel))
  have gc : RH.good (2 * m + 6) (.tup [.str "body", .tup [.str "s", .int 24, .tup [t.toV q]], .int (-1)]) = true :=
    good_tup3 (n := 2 * m + 5) (good_str _ (sok (by decide +kernel))) (good_tup3 (n := 2 * m + 4) (good_str _ (sok (by decide +kernel))) (good_int _ _) (good_tup (n := 2 * m + 3) fun v hv => by
      simp at hv; subst hv; exact g0)) (good_int _ _)
  intro v hv
  rcases List.mem_append.mp hv with hv | hv
  · unfold dueV testV at hv
    split at hv
    · simp at hv; subst hv; exact gc
    · split at hv
      · simp at hv
        rcases hv with rfl | rfl
        · exact gm _
        · exact gb _
      · simp at hv; subst hv; exact gb _
  · simp at hv
    rcases hv with rfl | rfl
    · exact go
    · exact gf
section
variable {prog : Program} {w : World} {c : Cx w (hd2.heap_39 w.params)} {ρ : Loc} {σ : St}
theorem law2_seg2 {name qual : Str} {params : Arguments} {body : List Stmt} {scope : Scope} {dV kV doc pm cdv ct : Value} {an : Option Addr} {fo : Obj} (hl : (hd2.heap_39 w.params).lookup 457 = some fo)
    (hfd : fo.data = .func (fnX name qual params body scope [] dV kV doc pm an cdv ct)) {nm : Str} {fa : Addr} {cd : Value} (hd : c.d = 494) {S : V} {W D : Tm} {n tg : Int}
    (hs : Sub [("signs", S), ("first", .int n), ("whole", W.toV (qN w)), ("target", .int tg), ("denied", D.toV (qN w))] ρ) (hW : W.ok 8) (hDo : D.ok 2) (ht : TabIs 185 tabP tabQ σ) :
    EX prog c (execs (body.drop 9) (envOf nm scope c.L fa cd)) ρ σ (fun fl _ σ' => fl = .ret (.bool true) ∧ TabIs 185 tabP tabQ σ') := by
  have he0 : scope.kind = .function → EnvOk c (envOf nm scope c.L fa cd) := fun h => ⟨rfl, h, rfl, rfl⟩
  obtain rfl := Option.some.inj (hl.symm.trans rfl)
  cases hfd
  have he := he0 rfl
  have hq := qN_ne w
  generalize qN w = q at hs hq
  refine EX.sub hs ?_
  clear hs
  -- maker
  refine EX_cons ?_
  refine EX_Name he rfl rfl ?_
  refine EV_fcall (f := 390) he rfl rfl rfl rfl rfl rfl rfl ?_
  refine EVs_cons rfl ?_
  refine EV_local he rfl rfl rfl ?_
  refine EVs_cons rfl ?_
  refine EV_DictI fun x2 hx2 => ?_
  refine EVs_cons rfl ?_
  refine EV_fcall (f := 215) he rfl rfl rfl rfl rfl rfl rfl ?_
  refine EVs_int ?_
  refine EVs_nil ?_
  refine c_Fresh (d := 492) (by omega) 0 fun σ3 x3 _ k3 => ?_
  refine EVs_cons rfl ?_
  refine EV_local he rfl rfl rfl ?_
  refine EVs_nil ?_
  refine c_Norm (d := 492) (by omega) _ _ _ n fun σ4 m dm wk _ k4 hN4 => ?_
  have ht4 := ht.keep (((Keep.refl [] _).updNew hx2 _).trans (k3.trans k4)) (by simp)
  clear k3 k4 hx2 ht
  have hWs : W.sz ≤ 1000 := by
    have := Tm.sz_le hW
    have e : (2 : Nat) ^ (8 + 1) ≤ 1000 := by decide
    omega
  have hDs : D.sz ≤ 900000 := by
    have := Tm.sz_le hDo
    have e : (2 : Nat) ^ (2 + 1) ≤ 1000 := by decide
    omega
  have hsl := spine_len W
  have dmT : ∀ {τ : St} {fs : List (Str × V)}, τ dm = some (.ns fs) → ∀ a ∈ [dm], ∀ o, τ a ≠ some (.raw o) := fun h a ha o => by
    simp at ha; subst ha; rw [h]; simp
  -- folded
  refine EX_cons ?_
  refine EX_Name he rfl rfl ?_
  refine EV_fcall (f := 450) he rfl rfl rfl rfl rfl rfl rfl ?_
  refine EVs_cons rfl ?_
  refine EV_meth rfl rfl rfl ?_
  refine EV_local he rfl rfl rfl ?_
  refine ⟨m, 390, dm, _, 373, rfl, hN4.x, hN4.ns, cls_norm, me_branches, rfl, ?_⟩
  refine EVs_cons rfl ?_
  refine EV_local he rfl rfl rfl ?_
  refine EVs_cons rfl ?_
  refine EV_local he rfl rfl rfl ?_
  refine EVs_nil ⟨.inl rfl, ?_⟩
  refine c_branches (d := 491) (by omega) (by decide) hq (by omega) hN4 tg fun σ5 B vs _ k5 hN5 hB5 hR5 => ?_
  have ht5 := ht4.keep k5 (dmT hN4.ns)
  refine EVs_cons rfl ?_
  refine EV_local he rfl rfl rfl ?_
  refine EVs_cons rfl ?_
  refine EV_local he rfl rfl rfl ?_
  refine EVs_nil ?_
  refine c_folded hq (m := 8) (by decide) (d := 491) (by omega) (by decide) (spine_ok hW) (spine_ne W) (by omega) hB5 hR5 fun σ6 k6 => ?_
  rw [join_spine]
  have hN6 := hN5.keep k6 (by simp)
  have ht6 := ht5.keep k6 (by simp)
  generalize endN n W.spine = N at hN6
  clear hN5 hB5 hR5 k6 k5 ht5 ht4 hN4
  -- folded whole
  refine EX_cons ?_
  refine EX_If ?_
  refine TR_or ?_
  refine TR_Compare rfl ?_
  refine EV_local he rfl rfl rfl ?_
  refine EV_none ?_
  refine OP_isNone (by simp) ⟨_, rfl, ?_⟩
  rw [if_neg (by decide)]
  refine TR_or ?_
  refine TR_Compare rfl ?_
  refine EV_Sub (fun _ _ => rfl) ?_
  refine EV_local he rfl rfl rfl ?_
  refine EV_int ⟨_, 0, W.toV q, rfl, rfl, rfl, ?_⟩
  refine EV_local he rfl rfl rfl ?_
  obtain ⟨w1, w2, w3⟩ := good_VD σ6 _ _ (Tm.good q 8 W hW)
  have okW : okD (dOf (W.toV q)) = true := okD_of w2 w3 (by decide)
  refine OP_neD (by omega) w1 w1 okW okW ⟨_, rfl, ?_⟩
  rw [eqv_ok okW, if_neg (by decide)]
  refine TR_or0 ?_
  rw [if_neg (by decide)]
  refine EX_nil ?_
  clear w1 w2 w3 okW
  -- due
  refine EX_cons ?_
  refine EX_Name he rfl rfl ?_
  refine EV_fcall (f := 443) he rfl rfl rfl rfl rfl rfl rfl ?_
  refine EVs_cons rfl ?_
  refine EV_local he rfl rfl rfl ?_
  refine EVs_cons rfl ?_
  refine EV_Sub (fun _ _ => rfl) ?_
  refine EV_local he rfl rfl rfl ?_
  refine EV_int ⟨_, 1, .int N, rfl, rfl, rfl, ?_⟩
  refine EVs_nil ?_
  refine c_test hq (n := 2) (d := 492) (by omega) (by decide) hDo N fun σ7 U _ k7 hU7 => ?_
  have hN7 := hN6.keep k7 (by simp)
  have ht7 := ht6.keep k7 (by simp)
  have last : ∀ ρ8 σ8 (U : Addr), Sub [("maker", .loc m), ("denied", D.toV q), ("folded", .tup [W.toV q, .int N]), ("due", .loc U)] ρ8 → NoA σ8 m dm wk S (.loc x2) (.loc x3) N [] → TabIs 185 tabP tabQ σ8 → σ8 U = some (.list (dueV q N D)) → EX prog c (execs ?rest ?env) ρ8 σ8 ?post := ?_
  · refine EX_cons ?_
    refine EX_If ?_
    refine TR_plain rfl ?_
    refine EV_fcall (f := 436) he rfl rfl rfl rfl rfl rfl rfl ?_
    refine EVs_cons rfl ?_
    refine EV_local he rfl rfl rfl ?_
    refine EVs_nil ?_
    refine c_numg hq 2 (d := 493) (by omega) (by decide) hDo fun σ8 k8 => ?_
    refine OPb_bool ?_
    have hN8 := hN7.keep k8 (by simp)
    have ht8 := ht7.keep k8 (by simp)
    by_cases hg : D.numG = true
    · rw [if_pos hg]
      refine EX_cons ?_
      refine EX_Name he rfl rfl ?_
      refine EV_List ?_
      refine EVs_cons rfl ?_
      refine EV_Tuple ?_
      refine EVs_str ?_
      refine EVs_cons rfl ?_
      refine EV_Tuple ?_
      refine EVs_str ?_
      refine EVs_cons rfl ?_
      refine EV_globInt he rfl rfl rfl ?_
      refine EVs_cons rfl ?_
      refine EV_Tuple ?_
      refine EVs_cons rfl ?_
      refine EV_local he rfl rfl rfl ?_
      refine EVs_nil ⟨by simp, ?_⟩
      refine EVs_nil ⟨by simp, ?_⟩
      refine EVs_cons rfl ?_
      refine EV_globInt he rfl rfl rfl ?_
      refine EVs_nil ⟨by simp, ?_⟩
      refine EVs_nil ⟨by simp, fun U2 hU2 => ?_⟩
      have kU : Keep [] σ8 (upd σ8 U2 (.list [.tup [.str "body", .tup [.str "s", .int 24, .tup [D.toV q]], .int (-1)]])) := (Keep.refl _ _).updNew hU2 _
      refine EX_nil ?_
      refine last _ _ U2 ?_ (hN8.keep kU (by simp)) (ht8.keep kU (by simp)) ((upd_same _ _ _).trans ?_)
      · exact .cons rfl (.cons rfl (.cons rfl (.cons rfl .nil)))
      · rw [dueV, if_pos hg]
    · rw [if_neg hg]
      refine EX_nil ?_
      refine last _ _ U ?_ hN8 ht8 ((k8 _ _ hU7 (by simp)).trans ?_)
      · exact .cons rfl (.cons rfl (.cons rfl (.cons rfl .nil)))
      · rw [dueV, if_neg hg]
  · intro ρ8 σ8 U hs8 hN8 ht8 hU8
    refine EX.sub hs8 ?_
    clear hs8 hU7 hN7 ht7 k7 hN6 ht6
    obtain ⟨dl1, dl2⟩ := due_len q N D
    -- negation
    refine EX_cons ?_
    refine EX_If ?_
    refine TR_Compare rfl ?_
    refine EV_meth rfl rfl rfl ?_
    refine EV_local he rfl rfl rfl ?_
    refine ⟨m, 390, dm, _, 380, rfl, hN8.x, hN8.ns, cls_norm, me_negation, rfl, ?_⟩
    refine EVs_cons rfl ?_
    refine EV_local he rfl rfl rfl ?_
    refine EVs_nil ⟨.inl rfl, ?_⟩
    refine c_negation (d := 491) (by omega) (by decide) hq hDs hN8 fun σ9 B I E k9 hN9 hB9 hI9 hE9 => ?_
    change NoA σ9 m dm wk S (.loc x2) (.loc x3) (dueN N D) [] at hN9
    change σ9 I = some (.list (dueV q N D ++ [ownV, .tup [.str "fail"]])) at hI9
    have ht9 := ht8.keep k9 (dmT hN8.ns)
    have hU9 := k9 _ _ hU8 (by
      simp
      rintro rfl
      have := hN8.ns; rw [hU8] at this; cases this)
    refine EV_List ?_
    refine EVs_cons rfl ?_
    refine EV_BinOp ?_
    refine EV_local he rfl rfl rfl ?_
    refine EV_List ?_
    refine EVs_cons rfl ?_
    refine EV_Tuple ?_
    refine EVs_str ?_
    refine EVs_nil ⟨by simp, ?_⟩
    refine EVs_cons rfl ?_
    refine EV_Tuple ?_
    refine EVs_str ?_
    refine EVs_nil ⟨by simp, ?_⟩
    refine EVs_nil ⟨by simp, fun b hb => ?_⟩
    have kb : Keep [] σ9 (upd σ9 b (.list [ownV, .tup [.str "fail"]])) := (Keep.refl _ _).updNew hb _
    have hb1 : upd σ9 b (.list [ownV, .tup [.str "fail"]]) b = _ := upd_same _ _ _
    change OP2 _ _ _ _ _ _ (upd σ9 b (.list [ownV, .tup [.str "fail"]])) _
    generalize upd σ9 b (.list [ownV, .tup [.str "fail"]]) = σa at kb hb1
    refine OP_addL (kb _ _ hU9 (by simp)) hb1 (by simp; omega) fun e hee => ?_
    have ke : Keep [] σ9 (upd σa e (.list (dueV q N D ++ [ownV, .tup [.str "fail"]]))) := kb.updNew hee _
    have he1 : upd σa e (.list (dueV q N D ++ [ownV, .tup [.str "fail"]])) e = _ := upd_same _ _ _
    generalize upd σa e (.list (dueV q N D ++ [ownV, .tup [.str "fail"]])) = σb at ke he1
    refine EVs_cons rfl ?_
    refine EV_List ?_
    refine EVs_nil ⟨by simp, fun f hf => ?_⟩
    have kf : Keep [] σb (upd σb f (.list [])) := (Keep.refl _ _).updNew hf _
    have hf1 : upd σb f (.list []) f = _ := upd_same _ _ _
    have he2 := kf _ _ he1 (by simp)
    have kf' : Keep [] σ9 (upd σb f (.list [])) := ke.trans kf
    generalize upd σb f (.list []) = σc at kf' hf1 he2
    refine EVs_nil ⟨by simp, fun g hg => ?_⟩
    have kg : Keep [] σc (upd σc g (.list [.loc e, .loc f])) := (Keep.refl _ _).updNew hg _
    have hg1 : upd σc g (.list [.loc e, .loc f]) g = _ := upd_same _ _ _
    have kk : Keep [] σ9 (upd σc g (.list [.loc e, .loc f])) := kf'.trans kg
    have he3 := kg _ _ he2 (by simp)
    have hf3 := kg _ _ hf1 (by simp)
    generalize upd σc g (.list [.loc e, .loc f]) = σd at kk hg1 he3 hf3
    obtain ⟨v1, v2, v3⟩ := good_VDs σd (2 * 2 + 6) _ (List.all_eq_true.mpr (due_good q N hDo))
    have okN : okD (.list [.list (dsOf (dueV q N D ++ [ownV, .tup [.str "fail"]])), .list []]) = true := okD_list (n := 20) (by simp only [PyData.canLayAll0, PyData.canLay0, v2, Bool.and_self]) (by simp only [PyData.depthAll, PyData.depth]; omega) (by decide)
    refine OP_neD (by omega) (.loc (kk _ _ hB9 (by simp)) (.cons (.loc (kk _ _ hI9 (by simp)) v1) (.cons (.loc (kk _ _ hE9 (by simp)) .nil) .nil))) (.loc hg1 (.cons (.loc he3 v1) (.cons (.loc hf3 .nil) .nil))) okN okN ⟨_, rfl, ?_⟩
    rw [eqv_ok okN, if_neg (by decide)]
    refine EX_nil ?_
    have hNd := hN9.keep kk (by simp)
    have htd := ht9.keep kk (by simp)
    have hUd := kk _ _ hU9 (by simp)
    -- the end
    refine EX_cons ?_
    refine EX_Return ?_
    refine EV_and ?_
    refine EV_Compare rfl ?_
    refine EV_meth0 rfl ?_
    refine EV_local he rfl rfl rfl ⟨m, 390, dm, _, 310, rfl, hNd.x, hNd.ns, cls_norm, me_newvar, rfl, .inl rfl, ?_⟩
    refine c_newvar (d := 493) (by omega) hNd fun σe ke2 hNe => ?_
    have hte := htd.keep ke2 (dmT hNd.ns)
    have hUe := ke2 _ _ hUd (by
      simp
      rintro rfl
      have := hNd.ns; rw [hUd] at this; cases this)
    refine EV_BinOp ?_
    refine EV_BinOp ?_
    refine EV_Sub (fun _ _ => rfl) ?_
    refine EV_local he rfl rfl rfl ?_
    refine EV_int ⟨_, 1, .int N, rfl, rfl, rfl, ?_⟩
    refine EV_bcall (x := "len") he rfl rfl rfl rfl (by decide) rfl rfl rfl ?_
    refine EVs_cons rfl ?_
    refine EV_local he rfl rfl rfl ?_
    refine EVs_nil ?_
    refine OP_len_list hUe (by omega) ?_
    refine OP_add ?_
    refine EV_int ?_
    refine OP_sub ?_
    refine OP_eq ?_
    refine OPb_bool ?_
    rw [if_pos (by rw [dl2]; simp)]
    refine EV_one ?_
    refine EV_Compare rfl ?_
    refine EV_attr rfl ?_
    refine EV_local he rfl rfl rfl ⟨m, 390, dm, _, _, rfl, hNe.x, hNe.ns, cls_norm, at_norm5, rfl, ?_⟩
    refine EV_List ?_
    refine EVs_nil ⟨by simp, fun z hz => ?_⟩
    have kz : Keep [] σe (upd σe z (.list [])) := (Keep.refl _ _).updNew hz _
    refine OP_eqD (by omega) (.loc (kz _ _ hNe.wk (by simp)) .nil) (.loc (upd_same _ _ _) .nil) (by decide) (by decide) ?_
    exact ⟨rfl, hte.keep kz (by simp)⟩
theorem law2_body {name qual : Str} {params : Arguments} {body : List Stmt} {scope : Scope} {dV kV doc pm cdv ct : Value} {an : Option Addr} {fo : Obj} (hl : (hd2.heap_39 w.params).lookup 457 = some fo)
    (hfd : fo.data = .func (fnX name qual params body scope [] dV kV doc pm an cdv ct)) {nm : Str} {fa : Addr} {cd : Value} {L : Addr} (hL : c.L = L) (hd : c.d = 494) {x : Addr} {xs : List Int} (hG : Given c x xs) (hz : xs.length ≤ 63) :
    EX prog c (execs body (envOf nm scope L fa cd)) [("script", .loc x)] (cells L 0) (fun fl _ σ' => fl = .ret (.bool true) ∧ TabIs 185 tabP tabQ σ') := by
  subst hL
  refine law2_seg1 hl hfd hd hG hz (cells_tab c.L 0) fun ρ1 σ1 S W D n tg s1 hW hD t1 => ?_
  exact law2_seg2 hl hfd hd s1 hW hD t1
end
end RH
set_option maxRecDepth 100000
set_option maxHeartbeats 8000000
theorem PySem.Challenge.cw_rh0086_02_holds : PySem.Challenge.rw_rh0086_02.Holds :=
  hd2 (by
  w_strict (k_go0; (all_goals try k_fold)
            (rename ¬ _ => hlen)
            (rename IntsAre _ _ => hInts)
            (rename Frag.In _ _ => hX)
            (rename Below _ _ _ _ => hB)
            (rename Fr _ _ _ _ => hF)
            (rename News _ _ _ _ => hN)
            (rename Top topProg _ _ _ _ _ => hT)
            (rename Shared.gens _ = _ => hgens)
            (rename Heap.IsList _ _ _ => hOld)
            refine RH.law_enter1 hX hT hB hF hN rfl rfl hOld hInts 0 (q := RH.tabQ) (pos := RH.tabP) ?_ ?_ ?_ ?_ ?_
            · rfl
            · exact .head _
            · intro i hi
              exact absurd hi (Nat.not_lt_zero _)
            · intro c hL hG hd
              exact RH.law2_body (hl := rfl) rfl hL hd hG (by omega)
            · intro s' m' hg ho hF' hgr
              refine ⟨?_, hgr, trivial⟩
              refine goodW_bool hF' (hg.trans hgens) (raisesW_false ?_) ?_ ho
              · wrow_none_raised
              · wrow_post))
