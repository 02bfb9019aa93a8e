import PyProof.Rows.All
import Wide.All
import OpenK.AllK
import Wide.FinOn
import Lean
import PySem.Challenge.RW_rh0086_01
open PySem PySem.W PyProof.Rows
set_option Elab.async false
set_option linter.all false
set_option maxRecDepth 100000
set_option maxHeartbeats 8000000
/- The rows below only hold names. The head (open_top) would lay a twin of each object of the top under these names, with proofs that fill some 60 MiB of the compiled file;
   it lays none where the name stands already, and does without. Nothing below leans on them. -/
namespace PySem.W.Fast
theorem tw93999993841781760 : True := trivial
theorem tw216166572393332736 : True := trivial
theorem tw7279812208001453088 : True := trivial
theorem tw17879027014964926560 : True := trivial
theorem tw2088511335354304608 : True := trivial
theorem tw1986356587643451520 : True := trivial
theorem tw17749346762641155200 : True := trivial
theorem tw4816649812798855392 : True := trivial
theorem tw17333438197338009856 : True := trivial
theorem tw11037281517180434720 : True := trivial
theorem tw14085008956005145920 : True := trivial
theorem tw15736376318180164032 : True := trivial
theorem tw10015099045093422656 : True := trivial
theorem tw1882192468597317216 : True := trivial
theorem tw3547952551824077408 : True := trivial
theorem tw16908677658819543680 : True := trivial
theorem tw9089556202108674688 : True := trivial
theorem tw17917907511623426720 : True := trivial
theorem tw9503786700139101888 : True := trivial
theorem tw8514734404904321760 : True := trivial
theorem tw14069559914220062464 : True := trivial
theorem tw10386335389575878432 : True := trivial
theorem tw3210249962187615200 : True := trivial
theorem tw7439205517165146113 : True := trivial
theorem tw9656156454748110913 : True := trivial
theorem tw453377109878588513 : True := trivial
theorem tw12769920735183828065 : True := trivial
theorem tw9873965738819198113 : True := trivial
theorem tw5495759515301868929 : True := trivial
theorem tw7642937824092068321 : True := trivial
theorem tw13994950909540907489 : True := trivial
theorem tw14903184601186152225 : True := trivial
theorem tw17084550239610656545 : True := trivial
theorem tw8473394573821489025 : True := trivial
theorem tw10691486462051730337 : True := trivial
theorem tw6045766319454521378 : True := trivial
theorem tw1538150001310082114 : True := trivial
theorem tw14106063761018614850 : True := trivial
theorem tw862305521744504002 : True := trivial
theorem tw8342547655526928642 : True := trivial
theorem tw16990476831171805506 : True := trivial
theorem tw2400720644197889346 : True := trivial
theorem tw11651757782607091170 : True := trivial
theorem tw2613466036611282466 : True := trivial
theorem tw3165884560284983010 : True := trivial
theorem tw7162962237403041538 : True := trivial
theorem tw11331706146847369986 : True := trivial
theorem tw11585352247105178434 : True := trivial
theorem tw14631178213282602818 : True := trivial
theorem tw7339311642053577570 : True := trivial
theorem tw8405581102255367106 : True := trivial
theorem tw13006934102469227523 : True := trivial
theorem tw6000620493085360163 : True := trivial
theorem tw4835766508945403043 : True := trivial
theorem tw3355115359807779011 : True := trivial
theorem tw9002845049925844259 : True := trivial
theorem tw12639226306354101667 : True := trivial
theorem tw17256079210913074595 : True := trivial
theorem tw12480919604609663427 : True := trivial
theorem tw14650339333624794595 : True := trivial
theorem tw2332789849713370659 : True := trivial
theorem tw9528985269812033059 : True := trivial
theorem tw1180541472736764483 : True := trivial
theorem tw17815635103758218819 : True := trivial
theorem tw13488582742053879395 : True := trivial
theorem tw9917494027730695843 : True := trivial
theorem tw13379373612308344547 : True := trivial
theorem tw6515955699202929379 : True := trivial
theorem tw11861520401067311939 : True := trivial
theorem tw16971586731693952867 : True := trivial
theorem tw6743176584474671011 : True := trivial
theorem tw11214914028803877859 : True := trivial
theorem tw13379775611878580195 : True := trivial
theorem tw17210102655998002212 : True := trivial
theorem tw6198510451004628004 : True := trivial
theorem tw1790304753767216196 : True := trivial
theorem tw18190305238334281828 : True := trivial
theorem tw10058769054673375396 : True := trivial
theorem tw16332353245810869476 : True := trivial
theorem tw12889256860855172324 : True := trivial
theorem tw18289208087083382020 : True := trivial
theorem tw591144853202208036 : True := trivial
theorem tw9909231090535027076 : True := trivial
theorem tw7495738480197769604 : True := trivial
theorem tw14047473803706369444 : True := trivial
theorem tw18301977038507479460 : True := trivial
theorem tw17896991121098228228 : True := trivial
theorem tw3877220054136680100 : True := trivial
theorem tw1661732159396313796 : True := trivial
theorem tw7648758305489482596 : True := trivial
theorem tw1056873210399094660 : True := trivial
theorem tw10257388920137024549 : True := trivial
theorem tw11057620081129255973 : True := trivial
theorem tw5689128061214705765 : True := trivial
theorem tw11481735384912734469 : True := trivial
theorem tw5536933016642178341 : True := trivial
theorem tw17463647444721890661 : True := trivial
theorem tw10542511664402603525 : True := trivial
theorem tw8104380310285635077 : True := trivial
theorem tw14637053543637105189 : True := trivial
theorem tw9727033142729882309 : True := trivial
theorem tw15801640388618749701 : True := trivial
theorem tw6057885999065302789 : True := trivial
theorem tw9575486484863888133 : True := trivial
theorem tw12812825422302428965 : True := trivial
theorem tw16490857322107841413 : True := trivial
theorem tw3749913585550205893 : True := trivial
theorem tw78352678766804166 : True := trivial
theorem tw17034392324598046918 : True := trivial
theorem tw6616786160190237094 : True := trivial
theorem tw12019253208468036134 : True := trivial
theorem tw1514859660413917766 : True := trivial
theorem tw10555330193212102246 : True := trivial
theorem tw2947888940065884902 : True := trivial
theorem tw2393382549902023398 : True := trivial
theorem tw6809979735914173318 : True := trivial
theorem tw10627182736320881574 : True := trivial
theorem tw11845401233767696358 : True := trivial
theorem tw3827853209812176071 : True := trivial
theorem tw681532169457196263 : True := trivial
theorem tw5389287499867650279 : True := trivial
theorem tw17578761262942022887 : True := trivial
theorem tw3444845282455492967 : True := trivial
theorem tw4967915119396133255 : True := trivial
theorem tw2603061676563838567 : True := trivial
theorem tw16917597414085940007 : True := trivial
theorem tw1413278175191426887 : True := trivial
theorem tw455705951733148487 : True := trivial
theorem tw17874500337193890791 : True := trivial
theorem tw13149123955296489480 : True := trivial
theorem tw414736372306409544 : True := trivial
theorem tw3493522276110984520 : True := trivial
theorem tw16781285108580942184 : True := trivial
theorem tw9673105389653625224 : True := trivial
theorem tw17836025826444742088 : True := trivial
theorem tw6608303495452591560 : True := trivial
theorem tw6627334222035382792 : True := trivial
theorem tw16968390465820937768 : True := trivial
theorem tw6007489036488819272 : True := trivial
theorem tw17993383298707649256 : True := trivial
theorem tw1558544303984867048 : True := trivial
theorem tw13609152668284060520 : True := trivial
theorem tw4248473955617610696 : True := trivial
theorem tw8778237490572688328 : True := trivial
theorem tw2871939009861235688 : True := trivial
theorem tw11566518731077325833 : True := trivial
theorem tw2306658931125755913 : True := trivial
theorem tw3797277723106940969 : True := trivial
theorem tw430459993704774697 : True := trivial
theorem tw16400532491646856233 : True := trivial
theorem tw12875818366579247177 : True := trivial
theorem tw8649864144517171305 : True := trivial
theorem tw14365186579398810793 : True := trivial
theorem tw8553290148861295785 : True := trivial
theorem tw1420968188318211273 : True := trivial
theorem tw12895384103456271817 : True := trivial
theorem tw15366715813797919209 : True := trivial
theorem tw5979074800370406921 : True := trivial
theorem tw5032084268313415241 : True := trivial
theorem tw14726694427952975529 : True := trivial
theorem tw17400337140722680489 : True := trivial
theorem tw4649105995993447081 : True := trivial
theorem tw5398779390486323913 : True := trivial
theorem tw7032164542856418153 : True := trivial
theorem tw12139868166735797097 : True := trivial
theorem tw3581800254075066281 : True := trivial
theorem tw6402104704046342121 : True := trivial
theorem tw5493423673968561129 : True := trivial
theorem tw16275187314573172970 : True := trivial
theorem tw15234940924630230378 : True := trivial
theorem tw18168238813897402826 : True := trivial
theorem tw12631293280079175114 : True := trivial
theorem tw10614472111525499466 : True := trivial
theorem tw11859617640433272426 : True := trivial
theorem tw10395959077284735690 : True := trivial
theorem tw3067629917203023626 : True := trivial
theorem tw11180714819154241354 : True := trivial
theorem tw13763067496332143466 : True := trivial
theorem tw15654249308109813738 : True := trivial
theorem tw17306366842144925867 : True := trivial
theorem tw11712284707821241547 : True := trivial
theorem tw9516207283424680139 : True := trivial
theorem tw10376618983302205707 : True := trivial
theorem tw8981834043618404651 : True := trivial
theorem tw12087344273931496779 : True := trivial
theorem tw4145679699777792363 : True := trivial
theorem tw16382359848451811755 : True := trivial
theorem tw4602433726720625355 : True := trivial
theorem tw16724667059345567467 : True := trivial
theorem tw7215145042204566283 : True := trivial
theorem tw2062617223359091499 : True := trivial
theorem tw7938943635581417355 : True := trivial
theorem tw2940728892022491019 : True := trivial
theorem tw3298926203355744171 : True := trivial
theorem tw11922793606124858347 : True := trivial
theorem tw16407176389378298988 : True := trivial
theorem tw7777906506080652396 : True := trivial
theorem tw13505965822990866636 : True := trivial
theorem tw9153672926574563564 : True := trivial
theorem tw12476915724837161196 : True := trivial
theorem tw17377546950701828428 : True := trivial
theorem tw16802694470454540620 : True := trivial
theorem tw1602544657792799212 : True := trivial
theorem tw16460213122960147020 : True := trivial
theorem tw1641365059113333356 : True := trivial
theorem tw3373799477251538572 : True := trivial
theorem tw13515940414197699308 : True := trivial
theorem tw8244266660337233644 : True := trivial
theorem tw16719869639234348780 : True := trivial
theorem tw4404427180997393164 : True := trivial
theorem tw17397294397517120300 : True := trivial
theorem tw10137419712764535660 : True := trivial
theorem tw7300864452612220812 : True := trivial
theorem tw7938387223724520461 : True := trivial
theorem tw15459588865442191437 : True := trivial
theorem tw6345308656584061037 : True := trivial
theorem tw17809119389670486125 : True := trivial
theorem tw16325876333860952173 : True := trivial
theorem tw3517884015410478253 : True := trivial
theorem tw13154995163264775373 : True := trivial
theorem tw301808654345169133 : True := trivial
theorem tw15680172205871166733 : True := trivial
theorem tw14881328650314412333 : True := trivial
theorem tw370519357394170189 : True := trivial
theorem tw9649070800977824077 : True := trivial
theorem tw4398840321634151821 : True := trivial
theorem tw13289914089158999469 : True := trivial
theorem tw6909801953213705741 : True := trivial
theorem tw15389085953002601069 : True := trivial
theorem tw13421996148132974221 : True := trivial
theorem tw9211671973931823789 : True := trivial
theorem tw4471016046058092269 : True := trivial
theorem tw16479450296776988557 : True := trivial
theorem tw6287401350004627341 : True := trivial
theorem tw12462646323978668142 : True := trivial
theorem tw3341920797727000686 : True := trivial
theorem tw12411920335069233294 : True := trivial
theorem tw2302477571414785198 : True := trivial
theorem tw4664261579059727566 : True := trivial
theorem tw749872421621603598 : True := trivial
theorem tw5211069651309875598 : True := trivial
theorem tw11173554745492230574 : True := trivial
theorem tw10335347128021879246 : True := trivial
theorem tw17361808934565328494 : True := trivial
theorem tw1781204837956781838 : True := trivial
theorem tw13761586807987840910 : True := trivial
theorem tw14712203510059559854 : True := trivial
theorem tw6948360387313562703 : True := trivial
theorem tw10899357084205802575 : True := trivial
theorem tw4734896377425706095 : True := trivial
theorem tw4518625321146005679 : True := trivial
theorem tw18018527799837497551 : True := trivial
theorem tw12924430788052616431 : True := trivial
theorem tw10986420133150268719 : True := trivial
theorem tw5469520808887104943 : True := trivial
theorem tw5670291714945211887 : True := trivial
theorem tw15223786495206677071 : True := trivial
theorem tw18280955801338944399 : True := trivial
theorem tw14053737918855102576 : True := trivial
theorem tw13656290606429716656 : True := trivial
theorem tw449319461033890032 : True := trivial
theorem tw13994110723385460048 : True := trivial
theorem tw3907616026692151664 : True := trivial
theorem tw12175410125928518096 : True := trivial
theorem tw1314408860343715312 : True := trivial
theorem tw14904761721561921040 : True := trivial
theorem tw6871902471410090544 : True := trivial
theorem tw16816286955658648144 : True := trivial
theorem tw4439661728053712464 : True := trivial
theorem tw8798230330177669712 : True := trivial
theorem tw16956746025523421904 : True := trivial
theorem tw13696743069492639504 : True := trivial
theorem tw2371124515606016784 : True := trivial
theorem tw10742836527849650992 : True := trivial
theorem tw12546995136555348848 : True := trivial
theorem tw15997948830521666544 : True := trivial
theorem tw1396486897632311280 : True := trivial
theorem tw8087467277784644625 : True := trivial
theorem tw2215423012923978001 : True := trivial
theorem tw13113801155212016945 : True := trivial
theorem tw7324028028510277937 : True := trivial
theorem tw16029711225947265521 : True := trivial
theorem tw11433580699732706833 : True := trivial
theorem tw4556646849655617329 : True := trivial
theorem tw16083375299720332113 : True := trivial
theorem tw104013283809788785 : True := trivial
theorem tw15422238723422728145 : True := trivial
theorem tw13971270824950990898 : True := trivial
theorem tw3571323157993166962 : True := trivial
theorem tw3002561977895163026 : True := trivial
theorem tw10212605829323759762 : True := trivial
theorem tw11064565721692394642 : True := trivial
theorem tw7976758593927309490 : True := trivial
theorem tw2652064361134568626 : True := trivial
theorem tw9056271282728538514 : True := trivial
theorem tw6883012455922479634 : True := trivial
theorem tw1886664657504844338 : True := trivial
theorem tw10288135054657747506 : True := trivial
theorem tw2007054144143840818 : True := trivial
theorem tw16659436306018036370 : True := trivial
theorem tw1689446831077758642 : True := trivial
theorem tw16432647430865666866 : True := trivial
theorem tw9717943741214498610 : True := trivial
theorem tw6466457422775403506 : True := trivial
theorem tw14632974505231343635 : True := trivial
theorem tw17687100660934446099 : True := trivial
theorem tw10263298117233137779 : True := trivial
theorem tw17266735084144254195 : True := trivial
theorem tw3060044180093741459 : True := trivial
theorem tw4050377371905968563 : True := trivial
theorem tw15299067650265980371 : True := trivial
theorem tw4623032961319784979 : True := trivial
theorem tw5887991572120753683 : True := trivial
theorem tw11967563625435020851 : True := trivial
theorem tw18056573665857676883 : True := trivial
theorem tw15715795306049223251 : True := trivial
theorem tw18034161860669424275 : True := trivial
theorem tw3668893572389313267 : True := trivial
theorem tw7294866800069396243 : True := trivial
theorem tw5769986338176878355 : True := trivial
theorem tw3672999502169407283 : True := trivial
theorem tw7488959817171157811 : True := trivial
theorem tw6051561505086598003 : True := trivial
theorem tw9489612019215057843 : True := trivial
theorem tw17263359251757947859 : True := trivial
theorem tw6936760331253295156 : True := trivial
theorem tw12794481480285757492 : True := trivial
theorem tw1302771357795658964 : True := trivial
theorem tw3377076899730177268 : True := trivial
theorem tw3476903547664320756 : True := trivial
theorem tw18093127260702263604 : True := trivial
theorem tw16079371801123690836 : True := trivial
theorem tw15330886638611437972 : True := trivial
theorem tw11375720901257164340 : True := trivial
theorem tw1720428073116390964 : True := trivial
theorem tw3547035709904807508 : True := trivial
theorem tw1831829619900908116 : True := trivial
theorem tw1046735404540641972 : True := trivial
theorem tw5071578965416034004 : True := trivial
theorem tw4884722670501294836 : True := trivial
theorem tw15966401792523787060 : True := trivial
theorem tw8332989989657496372 : True := trivial
theorem tw15848963696631416660 : True := trivial
theorem tw5991796304779117492 : True := trivial
theorem tw10989604858034258932 : True := trivial
theorem tw11192223537858202677 : True := trivial
theorem tw3155236302495400021 : True := trivial
theorem tw7269150848465868949 : True := trivial
theorem tw745777640100186293 : True := trivial
theorem tw8702104344420264117 : True := trivial
theorem tw5061260012848534805 : True := trivial
theorem tw12243902155986058517 : True := trivial
theorem tw13354237133328844149 : True := trivial
theorem tw2409529191475830165 : True := trivial
theorem tw10952536428518427029 : True := trivial
theorem tw9099445502205970837 : True := trivial
theorem tw17310115752266659253 : True := trivial
theorem tw12808284611365350837 : True := trivial
theorem tw2750462157598888437 : True := trivial
theorem tw11934349507286030837 : True := trivial
theorem tw7917506155466376693 : True := trivial
theorem tw154782763022609941 : True := trivial
theorem tw4907069752280359445 : True := trivial
theorem tw14687824378592160277 : True := trivial
theorem tw6210661427496459829 : True := trivial
theorem tw12002317829000436277 : True := trivial
theorem tw18303735640150444789 : True := trivial
theorem tw980034503154630421 : True := trivial
theorem tw13282449539491500949 : True := trivial
theorem tw9162066533552078805 : True := trivial
theorem tw2935747765304036309 : True := trivial
theorem tw9422310075665296341 : True := trivial
theorem tw16700227619135695861 : True := trivial
theorem tw15339259650285580310 : True := trivial
theorem tw6059788711514390582 : True := trivial
theorem tw10976693818365216822 : True := trivial
theorem tw5511718546721361974 : True := trivial
theorem tw10672812599962559606 : True := trivial
theorem tw15709368682250245334 : True := trivial
theorem tw13147389950956384598 : True := trivial
theorem tw12038261206585237910 : True := trivial
theorem tw13619416643581463030 : True := trivial
theorem tw12212225842364446198 : True := trivial
theorem tw16586293434946467382 : True := trivial
theorem tw7702077337269076566 : True := trivial
theorem tw17200185516791065206 : True := trivial
theorem tw17231852380954086038 : True := trivial
theorem tw12826833254174604950 : True := trivial
theorem tw6219391934578457270 : True := trivial
theorem tw2625367638587245334 : True := trivial
theorem tw15559788044651072342 : True := trivial
theorem tw14495816970562186263 : True := trivial
theorem tw16513637151152724023 : True := trivial
theorem tw2802243079625006167 : True := trivial
theorem tw713497645214674039 : True := trivial
theorem tw880602150235109559 : True := trivial
theorem tw14715549509495217431 : True := trivial
theorem tw10408159929130301783 : True := trivial
theorem tw16191611248952085847 : True := trivial
theorem tw8861544538203995543 : True := trivial
theorem tw9331555836898620919 : True := trivial
theorem tw1012058127118099095 : True := trivial
theorem tw15352104201860385495 : True := trivial
theorem tw12625438640018225911 : True := trivial
theorem tw16637539983233724183 : True := trivial
theorem tw13134075817092842359 : True := trivial
theorem tw17658521955997987703 : True := trivial
theorem tw16547306699237183383 : True := trivial
theorem tw12626258288127775703 : True := trivial
theorem tw7672683049408736280 : True := trivial
theorem tw1440969077891221560 : True := trivial
theorem tw10330883377446960216 : True := trivial
theorem tw1201120265244591416 : True := trivial
theorem tw18025962816361140568 : True := trivial
theorem tw5078276418516819352 : True := trivial
theorem tw13557113728069477784 : True := trivial
theorem tw900557495432506872 : True := trivial
theorem tw8501444781405293208 : True := trivial
theorem tw17759981752517116664 : True := trivial
theorem tw1720976804755658552 : True := trivial
theorem tw5364189152516580280 : True := trivial
theorem tw16935906190017965048 : True := trivial
theorem tw9815937726859301977 : True := trivial
theorem tw11148598639937944857 : True := trivial
theorem tw12143970014939667769 : True := trivial
theorem tw12677413610515151289 : True := trivial
theorem tw5838387075813196217 : True := trivial
theorem tw15263354045062422137 : True := trivial
theorem tw1760705267508432569 : True := trivial
theorem tw17318909199585090489 : True := trivial
theorem tw14738080089092364217 : True := trivial
theorem tw4422072715872356345 : True := trivial
theorem tw4917136739136990298 : True := trivial
theorem tw18071165793336487002 : True := trivial
theorem tw13917024561855218778 : True := trivial
theorem tw2979959933435297018 : True := trivial
theorem tw5293616252054440186 : True := trivial
theorem tw11505330364529903898 : True := trivial
theorem tw10645722441264260442 : True := trivial
theorem tw15075221318486734202 : True := trivial
theorem tw3174755738274326906 : True := trivial
theorem tw18346039521335840218 : True := trivial
theorem tw1265132637862734362 : True := trivial
theorem tw9378303878679214618 : True := trivial
theorem tw7478007046721581626 : True := trivial
theorem tw15656405212396959290 : True := trivial
theorem tw4513181574478597754 : True := trivial
theorem tw18247490910671473402 : True := trivial
theorem tw780984984473762618 : True := trivial
theorem tw6653103893150902170 : True := trivial
theorem tw16536447196470228922 : True := trivial
theorem tw14113928645472404539 : True := trivial
theorem tw3284268796548136027 : True := trivial
theorem tw14254602646952808667 : True := trivial
theorem tw10853240011010238811 : True := trivial
theorem tw10938514996116747643 : True := trivial
theorem tw16784915973444362619 : True := trivial
theorem tw2612688498662567323 : True := trivial
theorem tw528374546754392635 : True := trivial
theorem tw18132352255045031547 : True := trivial
theorem tw9523533314553626267 : True := trivial
theorem tw1507624471269010203 : True := trivial
theorem tw10759595263893847899 : True := trivial
theorem tw12853716426076989339 : True := trivial
theorem tw4806847185973958587 : True := trivial
theorem tw17920086398590010363 : True := trivial
theorem tw13650919025688757308 : True := trivial
theorem tw5466782206656435324 : True := trivial
theorem tw9336068726041830556 : True := trivial
theorem tw6764865239179397372 : True := trivial
theorem tw8562822488220299580 : True := trivial
theorem tw9411442503362764188 : True := trivial
theorem tw617027031231004156 : True := trivial
theorem tw11850723292954697244 : True := trivial
theorem tw13513097342325510716 : True := trivial
theorem tw17322482527219727964 : True := trivial
theorem tw17478510435065685660 : True := trivial
theorem tw5592789887955796668 : True := trivial
theorem tw10661198699153089244 : True := trivial
theorem tw455406990030966524 : True := trivial
theorem tw6958227534150152988 : True := trivial
theorem tw1257202988499324732 : True := trivial
theorem tw15132468725748789116 : True := trivial
theorem tw11816027228076223356 : True := trivial
theorem tw17894752907773291452 : True := trivial
theorem tw6120630312499409884 : True := trivial
theorem tw12625233581942065181 : True := trivial
theorem tw6630829954406878301 : True := trivial
theorem tw1346209222856942717 : True := trivial
theorem tw8239514415856557213 : True := trivial
theorem tw17756870029294437629 : True := trivial
theorem tw11986287847072138525 : True := trivial
theorem tw18426819833552818589 : True := trivial
theorem tw7503069676130334109 : True := trivial
theorem tw13878862628812932541 : True := trivial
theorem tw4403114458493612509 : True := trivial
theorem tw5858133477223332381 : True := trivial
theorem tw12896952879523698237 : True := trivial
theorem tw5017918406302408317 : True := trivial
theorem tw17131767867745365629 : True := trivial
theorem tw9242805909925293821 : True := trivial
theorem tw4017995763239448381 : True := trivial
theorem tw12319597667694293821 : True := trivial
theorem tw3984314974255351645 : True := trivial
theorem tw2307271730954654685 : True := trivial
theorem tw4672340181034903646 : True := trivial
theorem tw15423804059535023294 : True := trivial
theorem tw17503586475775485118 : True := trivial
theorem tw17931709348085827806 : True := trivial
theorem tw17459116520759621918 : True := trivial
theorem tw5563502797202349374 : True := trivial
theorem tw4173438847359917406 : True := trivial
theorem tw14864509022754952542 : True := trivial
theorem tw15726672502198582654 : True := trivial
theorem tw12921988911489875358 : True := trivial
theorem tw15719249473631493630 : True := trivial
theorem tw16381986444474676766 : True := trivial
theorem tw6491950058855658046 : True := trivial
theorem tw12698809865415530078 : True := trivial
theorem tw18374548027838279294 : True := trivial
theorem tw14916384217812341374 : True := trivial
theorem tw372967208370446014 : True := trivial
theorem tw10086054634965481182 : True := trivial
theorem tw6905985636971354942 : True := trivial
theorem tw16327245272066215934 : True := trivial
theorem tw10708795599575697439 : True := trivial
theorem tw8175475060161727519 : True := trivial
theorem tw589381615734505535 : True := trivial
theorem tw5660471998935519359 : True := trivial
theorem tw3111604261724728543 : True := trivial
theorem tw1822777622374211935 : True := trivial
theorem tw6055983558643134911 : True := trivial
theorem tw6554165923190501983 : True := trivial
theorem tw2454996686648354591 : True := trivial
theorem tw9317723479058261823 : True := trivial
theorem tw11691304178335030143 : True := trivial
theorem tw4134796511652916223 : True := trivial
theorem tw245798742315192777 : True := trivial
theorem tw12729715599856471664 : True := trivial
end PySem.W.Fast
open_top hd1 for PySem.Challenge.rw_rh0086_01
set_option Elab.async false
set_option maxRecDepth 10000
set_option linter.all false
namespace RH
open PySem PySem.W PySem.Calls PyProof.Rows

inductive V where
  | none
  | bool (b : Bool)
  | int (i : Int)
  | str (s : Str)
  | tup (vs : List V)
  | loc (a : Addr)

inductive AO where
  | list (vs : List V)
  | dictI (kvs : List (Int × V))
  | dictS (kvs : List (Str × V))
  | dictT (kvs : List (List Int × V))
  | inst (C dx : Addr)
  | ns (fs : List (Str × V))
  | cell (v : Option V)
  | raw (o : Obj)

abbrev St := Addr → Option AO
def upd (σ : St) (a : Addr) (o : AO) : St := fun b => if b = a then some o else σ b
theorem upd_same (σ : St) (a : Addr) (o : AO) : upd σ a o a = some o := if_pos rfl
theorem upd_ne {σ : St} {a b : Addr} {o : AO} (h : b ≠ a) : upd σ a o b = σ b := if_neg h
theorem upd_upd (σ : St) (a : Addr) (o o' : AO) : upd (upd σ a o) a o' = upd σ a o' := by
  funext b; unfold upd; split <;> rfl
theorem upd_self {σ : St} {a : Addr} {o : AO} (h : σ a = some o) : upd σ a o = σ := by
  funext b; unfold upd; split
  · rename_i e; rw [e, h]
  · rfl
theorem upd_comm {σ : St} {a b : Addr} {o o' : AO} (h : a ≠ b) : upd (upd σ a o) b o' = upd (upd σ b o') a o := by
  funext c; unfold upd; split
  · rename_i e; subst e; rw [if_neg (Ne.symm h)]
  · rfl

abbrev Loc := List (Str × V)
def lget : Loc → Str → Option V
  | [], _ => none
  | (y, u) :: r, x => if y = x then some u else lget r x
def lset : Loc → Str → V → Loc
  | [], x, v => [(x, v)]
  | (y, u) :: r, x, v => if y = x then (y, v) :: r else (y, u) :: lset r x v
theorem lget_lset (ρ : Loc) (x y : Str) (v : V) : lget (lset ρ x v) y = if y = x then some v else lget ρ y := by
  induction ρ with
  | nil =>
    unfold lset lget
    by_cases h : x = y
    · subst h; simp
    · have h' : ¬ y = x := fun e => h e.symm
      simp only [if_neg h, if_neg h']; rfl
  | cons p r ih =>
    obtain ⟨z, u⟩ := p
    unfold lset
    by_cases hz : z = x
    · subst hz
      rw [if_pos rfl]
      unfold lget
      by_cases h : z = y
      · subst h; simp
      · have h' : ¬ y = z := fun e => h e.symm
        simp only [if_neg h, if_neg h']
    · rw [if_neg hz]
      by_cases h : z = y
      · subst h
        simp [lget, hz]
      · simp only [lget, if_neg h]; exact ih

mutual
inductive VR (h : Heap) : Value → V → Prop
  | none : VR h .none .none
  | bool (b : Bool) : VR h (.bool b) (.bool b)
  | int (i : Int) (t : Tok) : VR h (.int i t) (.int i)
  | str (s : Str) (t : Tok) : VR h (.str s t) (.str s)
  | tup {a : Addr} {items : Array Value} {vs : List V} : h.IsTuple a items → VRs h items.toList vs → VR h (.ref a) (.tup vs)
  | loc (a : Addr) : VR h (.ref a) (.loc a)
inductive VRs (h : Heap) : List Value → List V → Prop
  | nil : VRs h [] []
  | cons {v : Value} {x : V} {vs : List Value} {xs : List V} : VR h v x → VRs h vs xs → VRs h (v :: vs) (x :: xs)
end

def TK (h h' : Heap) : Prop := ∀ b items, h.IsTuple b items → h'.IsTuple b items
theorem TK.refl (h : Heap) : TK h h := fun _ _ e => e
theorem TK.trans {h h' h'' : Heap} (x : TK h h') (y : TK h' h'') : TK h h'' := fun b i e => y b i (x b i e)

mutual
theorem VR.mono {h h' : Heap} (k : TK h h') {v : Value} {x : V} (r : VR h v x) : VR h' v x := by
  cases r with
  | none => exact .none
  | bool b => exact .bool b
  | int i t => exact .int i t
  | str s t => exact .str s t
  | tup ht hs => exact .tup (k _ _ ht) (VRs.mono k hs)
  | loc a => exact .loc a
theorem VRs.mono {h h' : Heap} (k : TK h h') {v : List Value} {x : List V} (r : VRs h v x) : VRs h' v x := by
  cases r with
  | nil => exact .nil
  | cons a b => exact .cons (VR.mono k a) (VRs.mono k b)
end
theorem VRs.length {h : Heap} {vs : List Value} {xs : List V} (r : VRs h vs xs) : vs.length = xs.length := by
  induction xs generalizing vs with
  | nil => cases r; rfl
  | cons x xs ih => cases r with | cons _ b => simp [ih b]
theorem VRs.get {h : Heap} {vs : List Value} {xs : List V} (r : VRs h vs xs) {i : Nat} {x : V} (e : xs[i]? = some x) : ∃ v, vs[i]? = some v ∧ VR h v x := by
  induction xs generalizing vs i with
  | nil => simp at e
  | cons y ys ih =>
    cases r with
    | cons a b =>
      cases i with
      | zero => simp at e; subst e; exact ⟨_, rfl, a⟩
      | succ n => simp at e; simpa using ih b e
theorem VRs.append {h : Heap} {vs ws : List Value} {xs ys : List V} (r : VRs h vs xs) (r' : VRs h ws ys) : VRs h (vs ++ ws) (xs ++ ys) := by
  induction xs generalizing vs with
  | nil => cases r; exact r'
  | cons x xs ih => cases r with | cons a b => exact .cons a (ih b)
theorem VRs.snoc {h : Heap} {vs : List Value} {v : Value} {xs : List V} {x : V} (r : VRs h vs xs) (r' : VR h v x) : VRs h (vs ++ [v]) (xs ++ [x]) := r.append (.cons r' .nil)
theorem VRs.reverse {h : Heap} {vs : List Value} {xs : List V} (r : VRs h vs xs) : VRs h vs.reverse xs.reverse := by
  induction xs generalizing vs with
  | nil => cases r; exact .nil
  | cons x xs ih => cases r with | cons a b => simpa using (ih b).snoc a
theorem VRs.take {h : Heap} {vs : List Value} {xs : List V} (r : VRs h vs xs) (n : Nat) : VRs h (vs.take n) (xs.take n) := by
  induction xs generalizing vs n with
  | nil => cases r; cases n <;> exact .nil
  | cons x xs ih =>
    cases r with
    | cons a b => cases n with
      | zero => exact .nil
      | succ n => exact .cons a (ih b n)
theorem VRs.unsnoc {h : Heap} {vs : List Value} {xs : List V} {x : V} (r : VRs h vs (xs ++ [x])) : ∃ ws v, vs = ws ++ [v] ∧ VRs h ws xs ∧ VR h v x := by
  induction xs generalizing vs with
  | nil => cases r with | cons a b => cases b; exact ⟨[], _, rfl, .nil, a⟩
  | cons y ys ih =>
    cases r with
    | cons a b =>
      obtain ⟨ws, v, rfl, h1, h2⟩ := ih b
      exact ⟨_ :: ws, v, rfl, .cons a h1, h2⟩

section
variable (prog : Program) (w : World)

def CR (h : Heap) : Option Value → Option V → Prop
  | none, none => True
  | some v, some x => VR h v x
  | _, _ => False

inductive NR (h : Heap) : List DictEntry → List (Str × V) → Prop
  | nil : NR h [] []
  | cons {hs : Int} {x : Str} {t : Tok} {v : Value} {u : V} {es : List DictEntry} {fs : List (Str × V)} : VR h v u → NR h es fs → NR h (⟨hs, .str x t, v⟩ :: es) ((x, u) :: fs)

def OR (h : Heap) (a : Addr) : AO → Prop
  | .list vs => ∃ items, h.PlainList a items ∧ VRs h items.toList vs
  | .dictI kvs => (a == sysModules) = false ∧ ∃ kv, h.DictOf (intKind prog w) a kv ∧ kv.map (·.1) = kvs.map (·.1) ∧ VRs h (kv.map (·.2)) (kvs.map (·.2))
  | .dictS kvs => (a == sysModules) = false ∧ ∃ kv, h.DictOf (strKind prog w) a kv ∧ kv.map (·.1) = kvs.map (·.1) ∧ VRs h (kv.map (·.2)) (kvs.map (·.2))
  | .dictT kvs => (a == sysModules) = false ∧ ∃ kv, h.DictOfH (tupleKind (intKind prog w)) a kv ∧ kv.map (·.1) = kvs.map (·.1) ∧ VRs h (kv.map (·.2.2)) (kvs.map (·.2))
  | .inst C dx => h.get? a = some (instObj C dx)
  | .ns fs => ∃ es n, h.get? a = some (dictOf es n) ∧ NR h es fs
  | .cell v => ∃ o u, h.get? a = some o ∧ o.data = .cell u ∧ CR h u v
  | .raw o => h.get? a = some o ∧ ∀ items n, o.data ≠ .seq items n

/-- not a tuple -/
def NT (o : Obj) : Prop := ¬ (o.cls = .type "tuple" ∧ ∃ items n, o.data = .seq items n)
variable {prog w}
theorem OR.nt {h : Heap} {a : Addr} {o : AO} (r : OR prog w h a o) : ∃ ob, h.get? a = some ob ∧ NT ob := by
  cases o with
  | list vs => obtain ⟨items, ⟨n, ho⟩, _⟩ := r; exact ⟨_, ho, fun ⟨e, _⟩ => by simp at e⟩
  | dictI kvs => obtain ⟨_, kv, ⟨o, es, ep, ho, _, hd, _⟩, _⟩ := r; exact ⟨o, ho, fun ⟨_, _, _, e⟩ => by rw [hd] at e; cases e⟩
  | dictS kvs => obtain ⟨_, kv, ⟨o, es, ep, ho, _, hd, _⟩, _⟩ := r; exact ⟨o, ho, fun ⟨_, _, _, e⟩ => by rw [hd] at e; cases e⟩
  | dictT kvs => obtain ⟨_, kv, ⟨o, es, ep, ho, _, hd, _⟩, _⟩ := r; exact ⟨o, ho, fun ⟨_, _, _, e⟩ => by rw [hd] at e; cases e⟩
  | inst C dx => exact ⟨_, r, fun ⟨_, _, _, e⟩ => by cases e⟩
  | ns fs => obtain ⟨es, n, ho, _⟩ := r; exact ⟨_, ho, fun ⟨_, _, _, e⟩ => by cases e⟩
  | cell v => obtain ⟨o, u, ho, hd, _⟩ := r; exact ⟨_, ho, fun ⟨_, _, _, e⟩ => by rw [hd] at e; cases e⟩
  | raw o => exact ⟨o, r.1, fun ⟨_, _, _, e⟩ => r.2 _ _ e⟩

theorem CR.mono {h h' : Heap} (k : TK h h') {v : Option Value} {x : Option V} (r : CR h v x) : CR h' v x := by
  cases v <;> cases x <;> first | exact r | exact VR.mono k r
theorem NR.mono {h h' : Heap} (k : TK h h') {es : List DictEntry} {fs : List (Str × V)} (r : NR h es fs) : NR h' es fs := by
  induction r with
  | nil => exact .nil
  | cons a _ ih => exact .cons (a.mono k) ih
theorem tk_key {h h' : Heap} (k : TK h h') {ks : List Int} {a : Addr} (x : IsTupleKey (intKind prog w) h ks a) : IsTupleKey (intKind prog w) h' ks a := by
  obtain ⟨o, items, n, ho, hc, hd, hi⟩ := x
  obtain ⟨o', ho', hc', n', hd'⟩ := k a items ⟨o, ho, hc, n, hd⟩
  exact ⟨o', items, n', ho', hc', hd', hi⟩
theorem OR.mono {h h' : Heap} (k : TK h h') {a : Addr} {o : AO} (hk : ∀ ob, h.get? a = some ob → h'.get? a = some ob) (r : OR prog w h a o) : OR prog w h' a o := by
  cases o with
  | list vs => obtain ⟨items, ⟨n, ho⟩, hv⟩ := r; exact ⟨items, ⟨n, hk _ ho⟩, hv.mono k⟩
  | dictI kvs => obtain ⟨z, kv, ⟨o, es, ep, ho, q⟩, e, hv⟩ := r; exact ⟨z, kv, ⟨o, es, ep, hk _ ho, q⟩, e, hv.mono k⟩
  | dictS kvs => obtain ⟨z, kv, ⟨o, es, ep, ho, q⟩, e, hv⟩ := r; exact ⟨z, kv, ⟨o, es, ep, hk _ ho, q⟩, e, hv.mono k⟩
  | dictT kvs => obtain ⟨z, kv, ⟨o, es, ep, ho, q1, q2, q3, q4, q5⟩, e, hv⟩ := r; exact ⟨z, kv, ⟨o, es, ep, hk _ ho, q1, q2, q3, fun x hx => tk_key k (q4 x hx), q5⟩, e, hv.mono k⟩
  | inst C dx => exact hk _ r
  | ns fs => obtain ⟨es, n, ho, q⟩ := r; exact ⟨es, n, hk _ ho, q.mono k⟩
  | cell v => obtain ⟨o, u, ho, hd, q⟩ := r; exact ⟨o, u, hk _ ho, hd, q.mono k⟩
  | raw o => exact ⟨hk _ r.1, r.2⟩
end

end RH
set_option Elab.async false
set_option maxRecDepth 10000
set_option linter.all false
namespace RH
open PySem PySem.W PySem.Calls PyProof.Rows

structure Cx (w : World) (K : Frag) where
  A : Around
  L : Addr
  h₀ : Heap
  d : Nat
  p : Program
  loose : List Str
  mean : ExcName → Option Value
  mg : Str → Option Value
  mb : Str → Option Value
  base : Heap
  frs : List Env
  hA : A.frames = some frs
  BB : ∀ (g : Heap) (m : Str → Option Value), Fr h₀ L g m → Below A base frs g
  X : K.In h₀
  T : Top p loose mean mg mb h₀
  hh : A.handled = none
  dp : A.depth + d < 1000
  un : A.units + 20 * d < 9900

section
variable {prog : Program} {w : World} {K : Frag}

def LR (h : Heap) (ρ : Loc) (m : Str → Option Value) : Prop := ∀ x V, lget ρ x = some V → ∃ v, m x = some v ∧ VR h v V

structure Sim (prog : Program) (c : Cx w K) (ρ : Loc) (σ : St) (s : Shared) : Prop where
  loc : ∃ m, Fr c.h₀ c.L s.heap m ∧ LR s.heap ρ m
  obj : ∀ a o, σ a = some o → a ≠ c.L ∧ c.h₀.get? a = none ∧ OR prog w s.heap a o

structure Go (L : Addr) (σ : St) (s : Shared) (σ' : St) (s' : Shared) : Prop where
  st : ∃ h tk, s' = { s with heap := h, toks := tk }
  keep : ∀ b o, σ b = none → b ≠ L → s.heap.get? b = some o → s'.heap.get? b = some o
  tk : TK s.heap s'.heap
  new : ∀ b, σ b = none → σ' b ≠ none → b ≠ L ∧ s.heap.get? b = none

theorem Go.refl (L : Addr) (σ : St) (s : Shared) : Go L σ s σ s := ⟨⟨_, _, rfl⟩, fun _ _ _ _ e => e, TK.refl _, fun _ h h' => absurd h h'⟩
theorem Go.trans {L : Addr} {σ σ' σ'' : St} {s s' s'' : Shared} (x : Go L σ s σ' s') (y : Go L σ' s' σ'' s'') : Go L σ s σ'' s'' where
  st := by
    obtain ⟨h, tk, rfl⟩ := x.st
    obtain ⟨h', tk', rfl⟩ := y.st
    exact ⟨h', tk', rfl⟩
  keep := fun b o h hL e => by
    have h' : σ' b = none := by
      cases q : σ' b with
      | none => rfl
      | some o' => exact absurd (x.new b h (by rw [q]; simp)).2 (by rw [e]; simp)
    exact y.keep b o h' hL (x.keep b o h hL e)
  tk := x.tk.trans y.tk
  new := fun b h h'' => by
    cases q : σ' b with
    | some o' => exact x.new b h (by rw [q]; simp)
    | none =>
      obtain ⟨hL, hn⟩ := y.new b q h''
      refine ⟨hL, ?_⟩
      cases e : s.heap.get? b with
      | none => rfl
      | some o => have := x.keep b o h hL e; rw [hn] at this; cases this

/-- expression trees -/
def EV (prog : Program) (c : Cx w K) (t : Sem Value) (ρ : Loc) (σ : St) (Q : V → St → Prop) : Prop :=
  ∀ s, Sim prog c ρ σ s → wpAny (model prog w) c.A t (fun v s' => ∃ V σ', VR s'.heap v V ∧ Sim prog c ρ σ' s' ∧ Go c.L σ s σ' s' ∧ Q V σ') (fun _ _ => False) s
def EVs (prog : Program) (c : Cx w K) (t : Sem (List Value)) (ρ : Loc) (σ : St) (Q : List V → St → Prop) : Prop :=
  ∀ s, Sim prog c ρ σ s → wpAny (model prog w) c.A t (fun v s' => ∃ V σ', VRs s'.heap v V ∧ Sim prog c ρ σ' s' ∧ Go c.L σ s σ' s' ∧ Q V σ') (fun _ _ => False) s
def TR (prog : Program) (c : Cx w K) (t : Sem Bool) (ρ : Loc) (σ : St) (Q : Bool → St → Prop) : Prop :=
  ∀ s, Sim prog c ρ σ s → wpAny (model prog w) c.A t (fun b s' => ∃ σ', Sim prog c ρ σ' s' ∧ Go c.L σ s σ' s' ∧ Q b σ') (fun _ _ => False) s
inductive Fl where
  | next | brk | cont | ret (v : V)
def FR (h : Heap) : Flow → Fl → Prop
  | .next, .next => True
  | .brk, .brk => True
  | .cont, .cont => True
  | .ret v, .ret x => VR h v x
  | _, _ => False
def EX (prog : Program) (c : Cx w K) (t : Sem Flow) (ρ : Loc) (σ : St) (Q : Fl → Loc → St → Prop) : Prop :=
  ∀ s, Sim prog c ρ σ s → wpAny (model prog w) c.A t (fun f s' => ∃ fl ρ' σ', FR s'.heap f fl ∧ Sim prog c ρ' σ' s' ∧ Go c.L σ s σ' s' ∧ Q fl ρ' σ') (fun _ _ => False) s
/-- a storing tree -/
def SV (prog : Program) (c : Cx w K) (t : Sem Unit) (ρ : Loc) (σ : St) (Q : Loc → St → Prop) : Prop :=
  ∀ s, Sim prog c ρ σ s → wpAny (model prog w) c.A t (fun _ s' => ∃ ρ' σ', Sim prog c ρ' σ' s' ∧ Go c.L σ s σ' s' ∧ Q ρ' σ') (fun _ _ => False) s
/-- operations on values -/
def OP1 (prog : Program) (c : Cx w K) (f : Value → Sem Value) (x : V) (ρ : Loc) (σ : St) (Q : V → St → Prop) : Prop :=
  ∀ s v, Sim prog c ρ σ s → VR s.heap v x → wpAny (model prog w) c.A (f v) (fun v s' => ∃ V σ', VR s'.heap v V ∧ Sim prog c ρ σ' s' ∧ Go c.L σ s σ' s' ∧ Q V σ') (fun _ _ => False) s
def OP2 (prog : Program) (c : Cx w K) (f : Value → Value → Sem Value) (x y : V) (ρ : Loc) (σ : St) (Q : V → St → Prop) : Prop :=
  ∀ s v u, Sim prog c ρ σ s → VR s.heap v x → VR s.heap u y → wpAny (model prog w) c.A (f v u) (fun v s' => ∃ V σ', VR s'.heap v V ∧ Sim prog c ρ σ' s' ∧ Go c.L σ s σ' s' ∧ Q V σ') (fun _ _ => False) s
def OPn (prog : Program) (c : Cx w K) (f : List Value → Sem Value) (xs : List V) (ρ : Loc) (σ : St) (Q : V → St → Prop) : Prop :=
  ∀ s vs, Sim prog c ρ σ s → VRs s.heap vs xs → wpAny (model prog w) c.A (f vs) (fun v s' => ∃ V σ', VR s'.heap v V ∧ Sim prog c ρ σ' s' ∧ Go c.L σ s σ' s' ∧ Q V σ') (fun _ _ => False) s
def OPb (prog : Program) (c : Cx w K) (f : Value → Sem Bool) (x : V) (ρ : Loc) (σ : St) (Q : Bool → St → Prop) : Prop :=
  ∀ s v, Sim prog c ρ σ s → VR s.heap v x → wpAny (model prog w) c.A (f v) (fun b s' => ∃ σ', Sim prog c ρ σ' s' ∧ Go c.L σ s σ' s' ∧ Q b σ') (fun _ _ => False) s

variable {c : Cx w K} {ρ : Loc} {σ : St}

theorem EV.run {t : Sem Value} {Q : V → St → Prop} {P : Value → Shared → Prop} {s : Shared} (h : EV prog c t ρ σ Q) (S : Sim prog c ρ σ s)
    (k : ∀ v s' V σ', VR s'.heap v V → Sim prog c ρ σ' s' → Go c.L σ s σ' s' → Q V σ' → P v s') : wpAny (model prog w) c.A t P (fun _ _ => False) s :=
  wpAny_mono (h s S) (fun v s' ⟨V, σ', a, b, g, q⟩ => k v s' V σ' a b g q) fun _ _ e => e
theorem EVs.run {t : Sem (List Value)} {Q : List V → St → Prop} {P : List Value → Shared → Prop} {s : Shared} (h : EVs prog c t ρ σ Q) (S : Sim prog c ρ σ s)
    (k : ∀ v s' V σ', VRs s'.heap v V → Sim prog c ρ σ' s' → Go c.L σ s σ' s' → Q V σ' → P v s') : wpAny (model prog w) c.A t P (fun _ _ => False) s :=
  wpAny_mono (h s S) (fun v s' ⟨V, σ', a, b, g, q⟩ => k v s' V σ' a b g q) fun _ _ e => e
theorem TR.run {t : Sem Bool} {Q : Bool → St → Prop} {P : Bool → Shared → Prop} {s : Shared} (h : TR prog c t ρ σ Q) (S : Sim prog c ρ σ s)
    (k : ∀ b s' σ', Sim prog c ρ σ' s' → Go c.L σ s σ' s' → Q b σ' → P b s') : wpAny (model prog w) c.A t P (fun _ _ => False) s :=
  wpAny_mono (h s S) (fun v s' ⟨σ', b, g, q⟩ => k v s' σ' b g q) fun _ _ e => e
theorem EX.run {t : Sem Flow} {Q : Fl → Loc → St → Prop} {P : Flow → Shared → Prop} {s : Shared} (h : EX prog c t ρ σ Q) (S : Sim prog c ρ σ s)
    (k : ∀ f s' fl ρ' σ', FR s'.heap f fl → Sim prog c ρ' σ' s' → Go c.L σ s σ' s' → Q fl ρ' σ' → P f s') : wpAny (model prog w) c.A t P (fun _ _ => False) s :=
  wpAny_mono (h s S) (fun v s' ⟨V, ρ', σ', a, b, g, q⟩ => k v s' V ρ' σ' a b g q) fun _ _ e => e
theorem SV.run {t : Sem Unit} {Q : Loc → St → Prop} {P : Unit → Shared → Prop} {s : Shared} (h : SV prog c t ρ σ Q) (S : Sim prog c ρ σ s)
    (k : ∀ s' ρ' σ', Sim prog c ρ' σ' s' → Go c.L σ s σ' s' → Q ρ' σ' → P () s') : wpAny (model prog w) c.A t P (fun _ _ => False) s :=
  wpAny_mono (h s S) (fun v s' ⟨ρ', σ', b, g, q⟩ => k s' ρ' σ' b g q) fun _ _ e => e
theorem OP1.run {f : Value → Sem Value} {x : V} {Q : V → St → Prop} {P : Value → Shared → Prop} {s : Shared} {u : Value} (h : OP1 prog c f x ρ σ Q) (S : Sim prog c ρ σ s) (r : VR s.heap u x)
    (k : ∀ v s' V σ', VR s'.heap v V → Sim prog c ρ σ' s' → Go c.L σ s σ' s' → Q V σ' → P v s') : wpAny (model prog w) c.A (f u) P (fun _ _ => False) s :=
  wpAny_mono (h s u S r) (fun v s' ⟨V, σ', a, b, g, q⟩ => k v s' V σ' a b g q) fun _ _ e => e
theorem OP2.run {f : Value → Value → Sem Value} {x y : V} {Q : V → St → Prop} {P : Value → Shared → Prop} {s : Shared} {u u' : Value} (h : OP2 prog c f x y ρ σ Q) (S : Sim prog c ρ σ s) (r : VR s.heap u x) (r' : VR s.heap u' y)
    (k : ∀ v s' V σ', VR s'.heap v V → Sim prog c ρ σ' s' → Go c.L σ s σ' s' → Q V σ' → P v s') : wpAny (model prog w) c.A (f u u') P (fun _ _ => False) s :=
  wpAny_mono (h s u u' S r r') (fun v s' ⟨V, σ', a, b, g, q⟩ => k v s' V σ' a b g q) fun _ _ e => e
theorem OPn.run {f : List Value → Sem Value} {xs : List V} {Q : V → St → Prop} {P : Value → Shared → Prop} {s : Shared} {us : List Value} (h : OPn prog c f xs ρ σ Q) (S : Sim prog c ρ σ s) (r : VRs s.heap us xs)
    (k : ∀ v s' V σ', VR s'.heap v V → Sim prog c ρ σ' s' → Go c.L σ s σ' s' → Q V σ' → P v s') : wpAny (model prog w) c.A (f us) P (fun _ _ => False) s :=
  wpAny_mono (h s us S r) (fun v s' ⟨V, σ', a, b, g, q⟩ => k v s' V σ' a b g q) fun _ _ e => e
theorem OPb.run {f : Value → Sem Bool} {x : V} {Q : Bool → St → Prop} {P : Bool → Shared → Prop} {s : Shared} {u : Value} (h : OPb prog c f x ρ σ Q) (S : Sim prog c ρ σ s) (r : VR s.heap u x)
    (k : ∀ v s' σ', Sim prog c ρ σ' s' → Go c.L σ s σ' s' → Q v σ' → P v s') : wpAny (model prog w) c.A (f u) P (fun _ _ => False) s :=
  wpAny_mono (h s u S r) (fun v s' ⟨σ', b, g, q⟩ => k v s' σ' b g q) fun _ _ e => e

/-! facts of the simulation -/
theorem Sim.fr {s : Shared} (S : Sim prog c ρ σ s) : ∃ m, Fr c.h₀ c.L s.heap m := let ⟨m, F, _⟩ := S.loc; ⟨m, F⟩
theorem Sim.inK {s : Shared} (S : Sim prog c ρ σ s) : K.In s.heap := let ⟨_, F⟩ := S.fr; c.X.keeps F.keep
theorem Sim.toks {s : Shared} (S : Sim prog c ρ σ s) (tk : Nat) : Sim prog c ρ σ { s with toks := tk } := ⟨S.loc, S.obj⟩
theorem Go.toks {s : Shared} (L : Addr) (σ : St) (tk : Nat) : Go L σ s σ { s with toks := tk } := ⟨⟨_, _, rfl⟩, fun _ _ _ _ e => e, TK.refl _, fun _ h h' => absurd h h'⟩
theorem Sim.sub {ρ' : Loc} {s : Shared} (S : Sim prog c ρ σ s) (h : ∀ x V, lget ρ' x = some V → lget ρ x = some V) : Sim prog c ρ' σ s :=
  ⟨let ⟨m, F, R⟩ := S.loc; ⟨m, F, fun x V e => R x V (h x V e)⟩, S.obj⟩

theorem TK.push (h : Heap) (o : Obj) : TK h (h.push o) := fun _ _ x => x.push o
/-- a new object that nobody changes -/
theorem Sim.pushT {s : Shared} (S : Sim prog c ρ σ s) (o : Obj) (tk : Nat) : Sim prog c ρ σ { s with heap := s.heap.push o, toks := tk } :=
  ⟨let ⟨m, F, R⟩ := S.loc; ⟨m, F.push o, fun x V e => let ⟨v, hv, r⟩ := R x V e; ⟨v, hv, r.mono (TK.push _ _)⟩⟩,
   fun a o' e => let ⟨h1, h2, h3⟩ := S.obj a o' e; ⟨h1, h2, h3.mono (TK.push _ _) fun _ e => Heap.get?_push_of_some _ e⟩⟩
theorem Go.pushT {s : Shared} (L : Addr) (σ : St) (o : Obj) (tk : Nat) : Go L σ s σ { s with heap := s.heap.push o, toks := tk } :=
  ⟨⟨_, _, rfl⟩, fun _ _ _ _ e => Heap.get?_push_of_some _ e, TK.push _ _, fun _ h h' => absurd h h'⟩
theorem Sim.freshAt {s : Shared} (S : Sim prog c ρ σ s) : σ s.heap.objs.size = none := by
  cases q : σ s.heap.objs.size with
  | none => rfl
  | some o =>
    obtain ⟨ob, ho, _⟩ := (S.obj _ _ q).2.2.nt
    exact absurd (Heap.lt_size ho) (Nat.lt_irrefl _)
theorem Sim.sizeNe {s : Shared} (S : Sim prog c ρ σ s) : s.heap.objs.size ≠ c.L := by
  obtain ⟨m, F⟩ := S.fr
  exact Nat.ne_of_gt F.ns.lt
theorem Sim.size₀ {s : Shared} (S : Sim prog c ρ σ s) : c.h₀.get? s.heap.objs.size = none := by
  obtain ⟨m, F⟩ := S.fr
  cases q : c.h₀.get? s.heap.objs.size with
  | none => rfl
  | some o => exact absurd (Heap.lt_size (F.keep _ _ q)) (Nat.lt_irrefl _)
/-- a new object of the ledger -/
theorem Sim.pushO {s : Shared} (S : Sim prog c ρ σ s) (o : Obj) (ao : AO) (tk : Nat) (r : OR prog w (s.heap.push o) s.heap.objs.size ao) : Sim prog c ρ (upd σ s.heap.objs.size ao) { s with heap := s.heap.push o, toks := tk } := by
  have S' := S.pushT o tk
  refine ⟨S'.loc, fun a o' e => ?_⟩
  unfold upd at e
  split at e
  · rename_i q; cases e; subst q; exact ⟨S.sizeNe, S.size₀, r⟩
  · exact S'.obj a o' e
theorem Go.pushO {s : Shared} (S : Sim prog c ρ σ s) (o : Obj) (ao : AO) (tk : Nat) : Go c.L σ s (upd σ s.heap.objs.size ao) { s with heap := s.heap.push o, toks := tk } :=
  ⟨⟨_, _, rfl⟩, fun _ _ _ _ e => Heap.get?_push_of_some _ e, TK.push _ _, fun b h h' => by
    unfold upd at h'
    split at h'
    · rename_i q; subst q; exact ⟨S.sizeNe, Heap.get?_none_of_le (Nat.le_refl _)⟩
    · exact absurd h h'⟩

/-- an object of the ledger changes -/
theorem tk_of_same {h h' : Heap} {a : Addr} {ob : Obj} (hs : Heap.SameBut a h h') (ho : h.get? a = some ob) (hn : NT ob) : TK h h' := fun b items ⟨o, e, hc, n, hd⟩ => by
  have hne : b ≠ a := fun q => by subst q; rw [ho] at e; cases e; exact hn ⟨hc, items, n, hd⟩
  exact ⟨o, (hs.2 b hne).trans e, hc, n, hd⟩
theorem Sim.change {s : Shared} {a : Addr} {o : AO} (S : Sim prog c ρ σ s) (e : σ a = some o) {h' : Heap} (hs : Heap.SameBut a s.heap h') (ao : AO) (tk : Nat) (r : OR prog w h' a ao) :
    Sim prog c ρ (upd σ a ao) { s with heap := h', toks := tk } := by
  obtain ⟨hL, h0, r0⟩ := S.obj _ _ e
  obtain ⟨ob, ho, hn⟩ := r0.nt
  have k := tk_of_same hs ho hn
  refine ⟨let ⟨m, F, R⟩ := S.loc; ⟨m, ⟨F.ns.sameBut hs (Ne.symm hL), fun b x q => (hs.2 b fun z => ?_).trans (F.keep b x q), F.above⟩, fun x V e => let ⟨v, hv, r⟩ := R x V e; ⟨v, hv, r.mono k⟩⟩, fun b o' q => ?_⟩
  · subst z; rw [h0] at q; cases q
  · unfold upd at q
    split at q
    · rename_i z; cases q; subst z; exact ⟨hL, h0, r⟩
    · rename_i z
      obtain ⟨h1, h2, h3⟩ := S.obj b o' q
      exact ⟨h1, h2, h3.mono k fun ob e => (hs.2 b z).trans e⟩
theorem Go.change {s : Shared} {a : Addr} {o : AO} (S : Sim prog c ρ σ s) (e : σ a = some o) {h' : Heap} (hs : Heap.SameBut a s.heap h') (ao : AO) (tk : Nat) :
    Go c.L σ s (upd σ a ao) { s with heap := h', toks := tk } := by
  obtain ⟨hL, h0, r0⟩ := S.obj _ _ e
  obtain ⟨ob, ho, hn⟩ := r0.nt
  refine ⟨⟨_, _, rfl⟩, fun b o' hb _ q => (hs.2 b fun z => ?_).trans q, tk_of_same hs ho hn, fun b hb hb' => ?_⟩
  · subst z; rw [e] at hb; cases hb
  · unfold upd at hb'
    split at hb'
    · rename_i z; subst z; rw [e] at hb; cases hb
    · exact absurd hb hb'
/-- a local name is set -/
theorem Sim.store {s : Shared} (S : Sim prog c ρ σ s) {m : Str → Option Value} (F : Fr c.h₀ c.L s.heap m) (R : LR s.heap ρ m) {x : Str} {v : Value} {V : V} (r : VR s.heap v V) {h' : Heap} (tk : Nat) (hs : Heap.SameBut c.L s.heap h')
    (hn : h'.Ns c.L (fun y => if y = x then some v else m y)) : Sim prog c (lset ρ x V) σ { s with heap := h', toks := tk } := by
  obtain ⟨oL, es, ep, hL, hd, _⟩ := F.ns
  have k : TK s.heap h' := tk_of_same hs hL fun ⟨_, _, _, q⟩ => by rw [hd] at q; cases q
  refine ⟨⟨_, F.set hn hs, fun y U e => ?_⟩, fun b o q => ?_⟩
  · rw [lget_lset] at e
    by_cases h : x = y
    · subst h
      rw [if_pos rfl] at e; cases e
      exact ⟨v, if_pos rfl, r.mono k⟩
    · rw [if_neg (fun z => h z.symm)] at e
      obtain ⟨u, hu, r'⟩ := R y U e
      exact ⟨u, by rw [if_neg (fun z => h z.symm)]; exact hu, r'.mono k⟩
  · obtain ⟨h1, h2, h3⟩ := S.obj b o q
    exact ⟨h1, h2, h3.mono k fun ob e => (hs.2 b h1).trans e⟩
theorem Go.store {s : Shared} (S : Sim prog c ρ σ s) {h' : Heap} (tk : Nat) (hs : Heap.SameBut c.L s.heap h') : Go c.L σ s σ { s with heap := h', toks := tk } := by
  obtain ⟨m, F, R⟩ := S.loc
  obtain ⟨oL, es, ep, hL, hd, _⟩ := F.ns
  exact ⟨⟨_, _, rfl⟩, fun b o _ hb e => (hs.2 b hb).trans e, tk_of_same hs hL (fun ⟨_, _, _, q⟩ => by rw [hd] at q; cases q), fun _ h h' => absurd h h'⟩

/-- the heap only grows -/
theorem tk_of_ext {h h' : Heap} (k : ∀ b o, h.get? b = some o → h'.get? b = some o) : TK h h' := fun b items ⟨o, e, q⟩ => ⟨o, k b o e, q⟩
theorem Sim.ext {s : Shared} (S : Sim prog c ρ σ s) {h' : Heap} (tk : Nat) (k : ∀ b o, s.heap.get? b = some o → h'.get? b = some o) : Sim prog c ρ σ { s with heap := h', toks := tk } :=
  ⟨let ⟨m, F, R⟩ := S.loc; ⟨m, ⟨F.ns.keeps k, fun b o e => k b o (F.keep b o e), F.above⟩, fun x V e => let ⟨v, hv, r⟩ := R x V e; ⟨v, hv, r.mono (tk_of_ext k)⟩⟩,
   fun a o' e => let ⟨h1, h2, h3⟩ := S.obj a o' e; ⟨h1, h2, h3.mono (tk_of_ext k) fun ob e => k a ob e⟩⟩
theorem Go.ext {s : Shared} (L : Addr) (σ : St) {h' : Heap} (tk : Nat) (k : ∀ b o, s.heap.get? b = some o → h'.get? b = some o) : Go L σ s σ { s with heap := h', toks := tk } :=
  ⟨⟨_, _, rfl⟩, fun b o _ _ e => k b o e, tk_of_ext k, fun _ h h' => absurd h h'⟩
theorem ext_of_fresh {h h' : Heap} (k : Heap.ExtBut h.objs.size h h') : ∀ b o, h.get? b = some o → h'.get? b = some o := fun b o e => k b o (Nat.ne_of_lt (Heap.lt_size e)) e

/-- an object that is nobody's changes -/
theorem Sim.but {s : Shared} {I : Addr} {ob : Obj} (S : Sim prog c ρ σ s) (hI : σ I = none) (hL : I ≠ c.L) (h0 : c.h₀.get? I = none) (ho : s.heap.get? I = some ob) (hn : NT ob) {h' : Heap} (hs : Heap.ExtBut I s.heap h') (tk : Nat) : Sim prog c ρ σ { s with heap := h', toks := tk } := by
  have k : TK s.heap h' := fun b items ⟨o, e, hc, n, hd⟩ => ⟨o, hs b o (fun z => by subst z; rw [ho] at e; cases e; exact hn ⟨hc, items, n, hd⟩) e, hc, n, hd⟩
  refine ⟨let ⟨m, F, R⟩ := S.loc; ⟨m, ⟨F.ns.extBut hs (Ne.symm hL), fun b o e => hs b o (fun z => by subst z; rw [h0] at e; cases e) (F.keep b o e), F.above⟩, fun x V e => let ⟨v, hv, r⟩ := R x V e; ⟨v, hv, r.mono k⟩⟩, fun a o' e => ?_⟩
  obtain ⟨h1, h2, h3⟩ := S.obj a o' e
  exact ⟨h1, h2, h3.mono k fun ob e' => hs a ob (fun z => by subst z; rw [hI] at e; cases e) e'⟩
theorem Go.but {L : Addr} {σ₀ : St} {s₀ s : Shared} {I : Addr} {ob : Obj} (g : Go L σ₀ s₀ σ s) (hI : s₀.heap.get? I = none) (ho : s.heap.get? I = some ob) (hn : NT ob) {h' : Heap} (hs : Heap.ExtBut I s.heap h') (tk : Nat) : Go L σ₀ s₀ σ { s with heap := h', toks := tk } := by
  have k : TK s.heap h' := fun b items ⟨o, e, hc, n, hd⟩ => ⟨o, hs b o (fun z => by subst z; rw [ho] at e; cases e; exact hn ⟨hc, items, n, hd⟩) e, hc, n, hd⟩
  refine ⟨?_, fun b o hb hL e => hs b o (fun z => by subst z; rw [hI] at e; cases e) (g.keep b o hb hL e), g.tk.trans k, g.new⟩
  obtain ⟨h, t, rfl⟩ := g.st
  exact ⟨h', tk, rfl⟩
end
end RH
set_option Elab.async false
set_option maxRecDepth 10000
set_option linter.all false
namespace RH
open PySem PySem.W PySem.Calls PyProof.Rows

structure EnvOk {w : World} {K : Frag} (c : Cx w K) (env : Env) : Prop where
  L : env.locals = c.L
  kd : env.scope.kind = .function
  gl : env.globals = mainGlobals
  bu : env.builtins = builtinsNs

section
variable {prog : Program} {w : World} {K : Frag} {c : Cx w K} {ρ : Loc} {σ : St} {env : Env} {Q : V → St → Prop}

theorem EV.mono {t : Sem Value} {Q' : V → St → Prop} (h : EV prog c t ρ σ Q) (k : ∀ v σ', Q v σ' → Q' v σ') : EV prog c t ρ σ Q' :=
  fun s S => h.run S fun _ _ V σ' a b g q => ⟨V, σ', a, b, g, k _ _ q⟩

/-! names -/
theorem EV_local {x : Str} {pos : Pos} {V : V} (he : EnvOk c env) (hk : env.kindOf x = some .local) (hd : (x == ("__debug__" : Str)) = false) (hv : lget ρ x = some V) (h : Q V σ) : EV prog c (eval (.Name x pos) env) ρ σ Q := fun s S => by
  obtain ⟨m, F, R⟩ := S.loc
  obtain ⟨v, hm, r⟩ := R x V hv
  exact wpAny_Name (wpAny_loadName_local he.kd hk (he.L ▸ F.ns) hm ⟨V, σ, r, S, Go.refl _ _ _, h⟩) hd
theorem EV_cell {x : Str} {pos : Pos} {V : V} {a : Addr} (he : EnvOk c env) (hk : env.kindOf x = some .cell) (hd : (x == ("__debug__" : Str)) = false) (hc : env.cells.lookup x = some a) (hv : σ a = some (.cell (some V))) (h : Q V σ) : EV prog c (eval (.Name x pos) env) ρ σ Q := fun s S => by
  obtain ⟨_, _, o, u, ho, hd', r⟩ := S.obj _ _ hv
  cases u with
  | none => exact r.elim
  | some v => exact wpAny_Name (wpAny_loadName_cell he.kd hk hc ⟨o, ho, hd'⟩ ⟨V, σ, r, S, Go.refl _ _ _, h⟩) hd
theorem EV_free {x : Str} {pos : Pos} {V : V} {a : Addr} (he : EnvOk c env) (hk : env.kindOf x = some .free) (hd : (x == ("__debug__" : Str)) = false) (hd2 : (x == ("__classdict__" : Str)) = false) (hc : env.cells.lookup x = some a) (hv : σ a = some (.cell (some V))) (h : Q V σ) : EV prog c (eval (.Name x pos) env) ρ σ Q := fun s S => by
  obtain ⟨_, _, o, u, ho, hd', r⟩ := S.obj _ _ hv
  cases u with
  | none => exact r.elim
  | some v => exact wpAny_Name (wpAny_loadName_free he.kd hk hc ⟨o, ho, hd'⟩ ⟨V, σ, r, S, Go.refl _ _ _, h⟩ hd2) hd
theorem EV_glob_raw {x : Str} {pos : Pos} {v : Value} {P : Value → Shared → Prop} {E : Value → Shared → Prop} {s : Shared} (S : Sim prog c ρ σ s) (he : EnvOk c env) (hk : env.kindOf x = some .globalImplicit) (hd : (x == ("__debug__" : Str)) = false) (hn : nsIn K mainGlobals x = some (some v)) (h : P v s) :
    wpAny (model prog w) c.A (eval (.Name x pos) env) P E s := by
  obtain ⟨m, F⟩ := S.fr
  exact Name_function_global he.kd hk (loadGlobal_global (he.gl ▸ c.T.g.keeps F.keep) (mg_of c.X c.T.g hn) h) hd
theorem EV_builtin_raw {x : Str} {pos : Pos} {v : Value} {P : Value → Shared → Prop} {E : Value → Shared → Prop} {s : Shared} (S : Sim prog c ρ σ s) (he : EnvOk c env) (hk : env.kindOf x = some .globalImplicit) (hd : (x == ("__debug__" : Str)) = false) (hn : nsIn K mainGlobals x = some none) (hb : bootBuiltins x = some v) (hnn : x ≠ "__name__") (h : P v s) :
    wpAny (model prog w) c.A (eval (.Name x pos) env) P E s := by
  obtain ⟨m, F⟩ := S.fr
  exact Name_function_global he.kd hk (loadGlobal_builtin (he.gl ▸ c.T.g.keeps F.keep) (mg_none_of c.X c.T.g hn) (he.bu ▸ c.T.b.keeps F.keep) ((c.T.builtins x hnn).trans hb) h) hd
theorem EV_globInt {x : Str} {pos : Pos} {i : Int} {t : Tok} (he : EnvOk c env) (hk : env.kindOf x = some .globalImplicit) (hd : (x == ("__debug__" : Str)) = false) (hn : nsIn K mainGlobals x = some (some (.int i t))) (h : Q (.int i) σ) : EV prog c (eval (.Name x pos) env) ρ σ Q := fun s S =>
  EV_glob_raw S he hk hd hn ⟨_, σ, .int i t, S, Go.refl _ _ _, h⟩
theorem EV_globRef {x : Str} {pos : Pos} {a : Addr} (he : EnvOk c env) (hk : env.kindOf x = some .globalImplicit) (hd : (x == ("__debug__" : Str)) = false) (hn : nsIn K mainGlobals x = some (some (.ref a))) (h : Q (.loc a) σ) : EV prog c (eval (.Name x pos) env) ρ σ Q := fun s S =>
  EV_glob_raw S he hk hd hn ⟨_, σ, .loc a, S, Go.refl _ _ _, h⟩

/-! constants -/
theorem EV_int {i : Int} {k : Nat} {pos : Pos} (h : Q (.int i) σ) : EV prog c (eval (.Constant (.int i) k pos) env) ρ σ Q := fun s S =>
  wpAny_Constant_int ⟨_, σ, .int i _, S.toks _, Go.toks _ _ _, h⟩
theorem EV_str {x : Str} {k : Nat} {pos : Pos} (h : Q (.str x) σ) : EV prog c (eval (.Constant (.str x) k pos) env) ρ σ Q := fun s S =>
  wpAny_Constant_str ⟨_, σ, .str x _, S.toks _, Go.toks _ _ _, h⟩
theorem EV_bool {b : Bool} {k : Nat} {pos : Pos} (h : Q (.bool b) σ) : EV prog c (eval (.Constant (.bool b) k pos) env) ρ σ Q := fun s S =>
  wpAny_Constant_bool ⟨_, σ, .bool b, S, Go.refl _ _ _, h⟩
theorem EV_none {k : Nat} {pos : Pos} (h : Q .none σ) : EV prog c (eval (.Constant .none k pos) env) ρ σ Q := fun s S =>
  wpAny_Constant_none ⟨_, σ, .none, S, Go.refl _ _ _, h⟩

/-! lists of expressions -/
theorem EVs_nil {pos : Pos} {Q : List V → St → Prop} (h : Q [] σ) : EVs prog c (spliced (backTo pos (starEach [] env))) ρ σ Q := fun s S =>
  spliced_none ⟨[], σ, .nil, S, Go.refl _ _ _, h⟩
theorem EVs_cons {e : PySem.Expr} {rest : List PySem.Expr} {pos : Pos} {Q : List V → St → Prop}
    (he : starEach (e :: rest) env = (false, eval e env) :: starEach rest env)
    (h : EV prog c (eval e env) ρ σ fun x σ₁ => EVs prog c (spliced (backTo pos (starEach rest env))) ρ σ₁ fun xs σ₂ => Q (x :: xs) σ₂) :
    EVs prog c (spliced (backTo pos (starEach (e :: rest) env))) ρ σ Q := fun s S =>
  spliced_more (h.run S fun v s₁ V σ₁ r S₁ g₁ h₁ => h₁.run S₁ fun vs s₂ Vs σ₂ rs S₂ g₂ q => ⟨V :: Vs, σ₂, .cons (r.mono g₂.tk) rs, S₂, g₁.trans g₂, q⟩) he

theorem EV_Tuple {elts : List PySem.Expr} {k : Nat} {pos : Pos} (h : EVs prog c (spliced (backTo pos (starEach elts env))) ρ σ fun xs σ₁ => xs.length ≤ 1000000 ∧ Q (.tup xs) σ₁) :
    EV prog c (eval (.Tuple elts k pos) env) ρ σ Q := fun s S =>
  wpAny_Tuple (h.run S fun vs s₁ Vs σ₁ rs S₁ g₁ ⟨hl, q⟩ => ⟨by rw [rs.length]; exact Nat.le_trans hl (by decide), _, σ₁,
    .tup ⟨_, Heap.get?_push_size _ rfl, rfl, 0, rfl⟩ (rs.mono (TK.push _ _)), S₁.pushT _ _, g₁.trans (Go.pushT _ _ _ _), q⟩)
theorem EV_List {elts : List PySem.Expr} {pos : Pos} (h : EVs prog c (spliced (backTo pos (starEach elts env))) ρ σ fun xs σ₁ => xs.length ≤ 1000000 ∧ ∀ a, σ₁ a = none → Q (.loc a) (upd σ₁ a (.list xs))) :
    EV prog c (eval (.List elts pos) env) ρ σ Q := fun s S =>
  wpAny_List (h.run S fun vs s₁ Vs σ₁ rs S₁ g₁ ⟨hl, q⟩ => ⟨by rw [rs.length]; exact Nat.le_trans hl (by decide), _, _,
    .loc _, S₁.pushO _ (.list Vs) _ ⟨_, ⟨0, Heap.get?_push_size _ rfl⟩, rs.mono (TK.push _ _)⟩, g₁.trans (Go.pushO S₁ _ _ _), q _ S₁.freshAt⟩)

/-! operators -/
theorem EV_BinOp {l r : PySem.Expr} {op : Operator} {pos : Pos}
    (h : EV prog c (eval l env) ρ σ fun x σ₁ => EV prog c (eval r env) ρ σ₁ fun y σ₂ => OP2 prog c (binaryOp op) x y ρ σ₂ Q) :
    EV prog c (eval (.BinOp l op r pos) env) ρ σ Q := fun s S =>
  wpAny_BinOp (h.run S fun v s₁ V σ₁ r₁ S₁ g₁ h₁ => h₁.run S₁ fun v₂ s₂ V₂ σ₂ r₂ S₂ g₂ h₂ => h₂.run S₂ (r₁.mono g₂.tk) r₂ fun v₃ s₃ V₃ σ₃ r₃ S₃ g₃ q =>
    ⟨V₃, σ₃, r₃, S₃, (g₁.trans g₂).trans g₃, q⟩)
theorem EV_Compare {l r : PySem.Expr} {op : CmpOp} {pos : Pos} (hm : behindInMarks op r = false)
    (h : EV prog c (eval l env) ρ σ fun x σ₁ => EV prog c (eval r env) ρ σ₁ fun y σ₂ => OP2 prog c (compareOp op) x y ρ σ₂ Q) :
    EV prog c (eval (.Compare l [op] [r] pos) env) ρ σ Q := fun s S =>
  wpAny_Compare1 (h.run S fun v s₁ V σ₁ r₁ S₁ g₁ h₁ => h₁.run S₁ fun v₂ s₂ V₂ σ₂ r₂ S₂ g₂ h₂ => h₂.run S₂ (r₁.mono g₂.tk) r₂ fun v₃ s₃ V₃ σ₃ r₃ S₃ g₃ q =>
    ⟨V₃, σ₃, r₃, S₃, (g₁.trans g₂).trans g₃, q⟩) hm
theorem EV_UnaryOp {x : PySem.Expr} {op : UnaryOp} {pos : Pos}
    (h : EV prog c (eval x env) ρ σ fun x σ₁ => OP1 prog c (unaryOp op) x ρ σ₁ Q) : EV prog c (eval (.UnaryOp op x pos) env) ρ σ Q := fun s S =>
  wpAny_UnaryOp (h.run S fun v s₁ V σ₁ r₁ S₁ g₁ h₁ => h₁.run S₁ r₁ fun v₃ s₃ V₃ σ₃ r₃ S₃ g₃ q => ⟨V₃, σ₃, r₃, S₃, g₁.trans g₃, q⟩)
theorem EV_IfExp {test body orelse : PySem.Expr} {pos : Pos}
    (h : TR prog c (isTrue test env (eval test env)) ρ σ fun b σ₁ => if b then EV prog c (eval body env) ρ σ₁ Q else EV prog c (eval orelse env) ρ σ₁ Q) :
    EV prog c (eval (.IfExp test body orelse pos) env) ρ σ Q := fun s S =>
  wpAny_IfExp (h.run S fun b s₁ σ₁ S₁ g₁ h₁ => by
    cases b
    · exact EV.run h₁ S₁ fun v₃ s₃ V₃ σ₃ r₃ S₃ g₃ q => ⟨V₃, σ₃, r₃, S₃, g₁.trans g₃, q⟩
    · exact EV.run h₁ S₁ fun v₃ s₃ V₃ σ₃ r₃ S₃ g₃ q => ⟨V₃, σ₃, r₃, S₃, g₁.trans g₃, q⟩)
theorem EV_and {e₁ e₂ : PySem.Expr} {rest : List PySem.Expr} {pos : Pos}
    (h : EV prog c (eval e₁ env) ρ σ fun x σ₁ => OPb prog c truthy x ρ σ₁ fun b σ₂ => if b then EV prog c (eval (.BoolOp .And (e₂ :: rest) pos) env) ρ σ₂ Q else Q x σ₂) :
    EV prog c (eval (.BoolOp .And (e₁ :: e₂ :: rest) pos) env) ρ σ Q := fun s S =>
  BoolOp_and (h.run S fun v s₁ V σ₁ r₁ S₁ g₁ h₁ => h₁.run S₁ r₁ fun b s₂ σ₂ S₂ g₂ h₂ => by
    cases b
    · exact ⟨V, σ₂, r₁.mono g₂.tk, S₂, g₁.trans g₂, h₂⟩
    · exact EV.run h₂ S₂ fun v₃ s₃ V₃ σ₃ r₃ S₃ g₃ q => ⟨V₃, σ₃, r₃, S₃, (g₁.trans g₂).trans g₃, q⟩)
theorem EV_or {e₁ e₂ : PySem.Expr} {rest : List PySem.Expr} {pos : Pos}
    (h : EV prog c (eval e₁ env) ρ σ fun x σ₁ => OPb prog c truthy x ρ σ₁ fun b σ₂ => if b then Q x σ₂ else EV prog c (eval (.BoolOp .Or (e₂ :: rest) pos) env) ρ σ₂ Q) :
    EV prog c (eval (.BoolOp .Or (e₁ :: e₂ :: rest) pos) env) ρ σ Q := fun s S =>
  BoolOp_or (h.run S fun v s₁ V σ₁ r₁ S₁ g₁ h₁ => h₁.run S₁ r₁ fun b s₂ σ₂ S₂ g₂ h₂ => by
    cases b
    · exact EV.run h₂ S₂ fun v₃ s₃ V₃ σ₃ r₃ S₃ g₃ q => ⟨V₃, σ₃, r₃, S₃, (g₁.trans g₂).trans g₃, q⟩
    · exact ⟨V, σ₂, r₁.mono g₂.tk, S₂, g₁.trans g₂, h₂⟩)
theorem EV_one {e : PySem.Expr} {op : BoolOp} {pos : Pos} (h : EV prog c (eval e env) ρ σ Q) : EV prog c (eval (.BoolOp op [e] pos) env) ρ σ Q := fun s S => BoolOp_one (h s S)

/-! tests -/
theorem TR_Compare {l r : PySem.Expr} {op : CmpOp} {pos : Pos} {whole : Sem Value} {Q : Bool → St → Prop} (hm : behindInMarks op r = false)
    (h : EV prog c (eval l env) ρ σ fun x σ₁ => EV prog c (eval r env) ρ σ₁ fun y σ₂ => OP2 prog c (compareOp op) x y ρ σ₂ fun z σ₃ => ∃ b, z = .bool b ∧ Q b σ₃) :
    TR prog c (isTrue (.Compare l [op] [r] pos) env whole) ρ σ Q := fun s S =>
  wpAny_isTrue_Compare1 (h.run S fun v s₁ V σ₁ r₁ S₁ g₁ h₁ => h₁.run S₁ fun v₂ s₂ V₂ σ₂ r₂ S₂ g₂ h₂ => h₂.run S₂ (r₁.mono g₂.tk) r₂ fun v₃ s₃ V₃ σ₃ r₃ S₃ g₃ ⟨b, e, q⟩ => by
    subst e; cases r₃
    exact wpAny_truthy_bool ⟨σ₃, S₃, (g₁.trans g₂).trans g₃, q⟩) hm
theorem TR_plain {e : PySem.Expr} {whole : Sem Value} {Q : Bool → St → Prop} (he : isTrue e env whole = (do let v ← whole; standAt e.pos; holding [v] (truthy v)))
    (h : EV prog c whole ρ σ fun x σ₁ => OPb prog c truthy x ρ σ₁ Q) : TR prog c (isTrue e env whole) ρ σ Q := fun s S =>
  isTrue_plain (h.run S fun v s₁ V σ₁ r₁ S₁ g₁ h₁ => h₁.run S₁ r₁ fun b s₂ σ₂ S₂ g₂ q => ⟨σ₂, S₂, g₁.trans g₂, q⟩) he
theorem TR_not {x : PySem.Expr} {pos : Pos} {whole : Sem Value} {Q : Bool → St → Prop} (h : TR prog c (isTrue x env (eval x env)) ρ σ fun b σ₁ => Q (!b) σ₁) : TR prog c (isTrue (.UnaryOp .Not x pos) env whole) ρ σ Q := fun s S =>
  isTrue_not (h.run S fun b s₂ σ₂ S₂ g₂ q => ⟨σ₂, S₂, g₂, q⟩)
theorem TR_and {x : PySem.Expr} {rest : List PySem.Expr} {pos : Pos} {whole : Sem Value} {Q : Bool → St → Prop}
    (h : TR prog c (isTrue x env (eval x env)) ρ σ fun b σ₁ => if b then TR prog c (isTrue (.BoolOp .And rest pos) env whole) ρ σ₁ Q else Q false σ₁) :
    TR prog c (isTrue (.BoolOp .And (x :: rest) pos) env whole) ρ σ Q := fun s S =>
  isTrue_and (h.run S fun b s₂ σ₂ S₂ g₂ h₂ => by
    cases b
    · exact ⟨σ₂, S₂, g₂, h₂⟩
    · exact TR.run h₂ S₂ fun b s₃ σ₃ S₃ g₃ q => ⟨σ₃, S₃, g₂.trans g₃, q⟩)
theorem TR_or {x : PySem.Expr} {rest : List PySem.Expr} {pos : Pos} {whole : Sem Value} {Q : Bool → St → Prop}
    (h : TR prog c (isTrue x env (eval x env)) ρ σ fun b σ₁ => if b then Q true σ₁ else TR prog c (isTrue (.BoolOp .Or rest pos) env whole) ρ σ₁ Q) :
    TR prog c (isTrue (.BoolOp .Or (x :: rest) pos) env whole) ρ σ Q := fun s S =>
  isTrue_or (h.run S fun b s₂ σ₂ S₂ g₂ h₂ => by
    cases b
    · exact TR.run h₂ S₂ fun b s₃ σ₃ S₃ g₃ q => ⟨σ₃, S₃, g₂.trans g₃, q⟩
    · exact ⟨σ₂, S₂, g₂, h₂⟩)
theorem TR_and0 {pos : Pos} {whole : Sem Value} {Q : Bool → St → Prop} (h : Q true σ) : TR prog c (isTrue (.BoolOp .And [] pos) env whole) ρ σ Q := fun s S => isTrue_and_nil ⟨σ, S, Go.refl _ _ _, h⟩
theorem TR_or0 {pos : Pos} {whole : Sem Value} {Q : Bool → St → Prop} (h : Q false σ) : TR prog c (isTrue (.BoolOp .Or [] pos) env whole) ρ σ Q := fun s S => isTrue_or_nil ⟨σ, S, Go.refl _ _ _, h⟩

/-! operations on ints, texts -/
theorem OP_add {i j : Int} (h : Q (.int (i + j)) σ) : OP2 prog c (binaryOp .Add) (.int i) (.int j) ρ σ Q := fun s v u S r₁ r₂ => by
  cases r₁; cases r₂; exact add_int ⟨_, σ, .int _ _, S.toks _, Go.toks _ _ _, h⟩
theorem OP_sub {i j : Int} (h : Q (.int (i - j)) σ) : OP2 prog c (binaryOp .Sub) (.int i) (.int j) ρ σ Q := fun s v u S r₁ r₂ => by
  cases r₁; cases r₂; exact sub_int ⟨_, σ, .int _ _, S.toks _, Go.toks _ _ _, h⟩
theorem OP_mul {i j : Int} (hm : IntMulOk i j) (h : Q (.int (i * j)) σ) : OP2 prog c (binaryOp .Mult) (.int i) (.int j) ρ σ Q := fun s v u S r₁ r₂ => by
  cases r₁; cases r₂; exact mul_int ⟨_, σ, .int _ _, S.toks _, Go.toks _ _ _, h⟩ hm
theorem OP_mod {i j : Int} (hj : j ≠ 0) (h : Q (.int (i.fmod j)) σ) : OP2 prog c (binaryOp .Mod) (.int i) (.int j) ρ σ Q := fun s v u S r₁ r₂ => by
  cases r₁; cases r₂; exact mod_int' hj ⟨_, σ, .int _ _, S.toks _, Go.toks _ _ _, h⟩
theorem OP_fdiv {i j : Int} (hj : j ≠ 0) (hp : Builtin.divisionGoesByPylong i j = false) (h : Q (.int (i.fdiv j)) σ) : OP2 prog c (binaryOp .FloorDiv) (.int i) (.int j) ρ σ Q := fun s v u S r₁ r₂ => by
  cases r₁; cases r₂; exact floordiv_int hj ⟨_, σ, .int _ _, S.toks _, Go.toks _ _ _, h⟩ (.inl hp)
theorem OP_pow {i j : Int} (hj : 0 ≤ j) (hb : (Builtin.Int.intBits i : Int) * j ≤ 2 ^ 27) (h : Q (.int (i ^ j.toNat)) σ) : OP2 prog c (binaryOp .Pow) (.int i) (.int j) ρ σ Q := fun s v u S r₁ r₂ => by
  cases r₁; cases r₂; exact pow_int hj hb ⟨_, σ, .int _ _, S.toks _, Go.toks _ _ _, h⟩
theorem OP_neg {i : Int} (h : Q (.int (-i)) σ) : OP1 prog c (unaryOp .USub) (.int i) ρ σ Q := fun s v S r₁ => by
  cases r₁; exact neg_int ⟨_, σ, .int _ _, S.toks _, Go.toks _ _ _, h⟩
theorem OP_lt {i j : Int} (h : Q (.bool (decide (i < j))) σ) : OP2 prog c (compareOp .Lt) (.int i) (.int j) ρ σ Q := fun s v u S r₁ r₂ => by
  cases r₁; cases r₂; exact lt_int ⟨_, σ, .bool _, S, Go.refl _ _ _, h⟩
theorem OP_gt {i j : Int} (h : Q (.bool (decide (j < i))) σ) : OP2 prog c (compareOp .Gt) (.int i) (.int j) ρ σ Q := fun s v u S r₁ r₂ => by
  cases r₁; cases r₂; exact gt_int ⟨_, σ, .bool _, S, Go.refl _ _ _, h⟩
theorem OP_ge {i j : Int} (h : Q (.bool (decide (j ≤ i))) σ) : OP2 prog c (compareOp .GtE) (.int i) (.int j) ρ σ Q := fun s v u S r₁ r₂ => by
  cases r₁; cases r₂; exact ge_int ⟨_, σ, .bool _, S, Go.refl _ _ _, h⟩
theorem OP_eq {i j : Int} (h : Q (.bool (i == j)) σ) : OP2 prog c (compareOp .Eq) (.int i) (.int j) ρ σ Q := fun s v u S r₁ r₂ => by
  cases r₁; cases r₂; exact eq_int ⟨_, σ, .bool _, S, Go.refl _ _ _, h⟩
theorem OP_ne {i j : Int} (h : Q (.bool (i != j)) σ) : OP2 prog c (compareOp .NotEq) (.int i) (.int j) ρ σ Q := fun s v u S r₁ r₂ => by
  cases r₁; cases r₂; exact ne_int ⟨_, σ, .bool _, S, Go.refl _ _ _, h⟩
theorem OP_eqs {i j : Str} (h : Q (.bool (i == j)) σ) : OP2 prog c (compareOp .Eq) (.str i) (.str j) ρ σ Q := fun s v u S r₁ r₂ => by
  cases r₁; cases r₂; exact eq_str ⟨_, σ, .bool _, S, Go.refl _ _ _, h⟩
theorem OPb_bool {b : Bool} {Q : Bool → St → Prop} (h : Q b σ) : OPb prog c truthy (.bool b) ρ σ Q := fun s v S r₁ => by
  cases r₁; exact wpAny_truthy_bool ⟨σ, S, Go.refl _ _ _, h⟩
theorem OPb_list {a : Addr} {vs : List V} {Q : Bool → St → Prop} (ha : σ a = some (.list vs)) (hz : vs.length ≤ 1000000) (h : Q (!vs.isEmpty) σ) : OPb prog c truthy (.loc a) ρ σ Q := fun s v S r₁ => by
  cases r₁
  obtain ⟨_, _, items, hl, hv⟩ := S.obj _ _ ha
  have hs : items.size = vs.length := by rw [← hv.length, Array.length_toList]
  refine wpAny_truthy_list hl.isList (by rw [hs]; omega) ⟨σ, S.toks _, Go.toks _ _ _, ?_⟩
  have : items.isEmpty = vs.isEmpty := by
    cases vs with
    | nil => simp at hs ⊢; exact hs
    | cons x xs => simp at hs ⊢; intro e; rw [e] at hs; simp at hs
  rw [this]; exact h
end
end RH
set_option Elab.async false
set_option maxRecDepth 10000
set_option linter.all false
namespace RH
open PySem PySem.W PySem.Calls PyProof.Rows

section
variable {prog : Program} {w : World} {K : Frag} {c : Cx w K} {ρ : Loc} {σ : St} {env : Env} {Q : Fl → Loc → St → Prop}

theorem EnvOk.plain (he : EnvOk c env) : (env.scope.kind == .class || (env.scope.kind == .module && env.locals != env.globals)) = false := by rw [he.kd]; rfl

theorem EX.mono {t : Sem Flow} {Q' : Fl → Loc → St → Prop} (h : EX prog c t ρ σ Q) (k : ∀ f ρ' σ', Q f ρ' σ' → Q' f ρ' σ') : EX prog c t ρ σ Q' :=
  fun s S => h.run S fun f _ fl ρ' σ' a b g q => ⟨fl, ρ', σ', a, b, g, k _ _ _ q⟩
/-- forget names -/
theorem EX.sub {t : Sem Flow} {ρ' : Loc} (hs : ∀ x V, lget ρ' x = some V → lget ρ x = some V) (h : EX prog c t ρ' σ Q) : EX prog c t ρ σ Q := fun s S => h s (S.sub hs)

theorem store_local {x : Str} {v : Value} {V : V} {s : Shared} {P : Unit → Shared → Prop} {E : Value → Shared → Prop} (he : EnvOk c env) (hk : env.kindOf x = some .local) (S : Sim prog c ρ σ s) (r : VR s.heap v V)
    (k : ∀ s', Sim prog c (lset ρ x V) σ s' → Go c.L σ s σ s' → P () s') : wpAny (model prog w) c.A (storeName env x v) P E s := by
  obtain ⟨m, F, R⟩ := S.loc
  exact wpAny_storeName_local hk (he.L ▸ F.ns) (fun h' hn hs => by
    rw [he.L] at hn hs
    exact k _ (S.store F R r _ hs hn) (Go.store S _ hs)) he.plain
theorem store_cell {x : Str} {v : Value} {V : V} {a : Addr} {u : Option RH.V} {s : Shared} {P : Unit → Shared → Prop} {E : Value → Shared → Prop} (he : EnvOk c env) (hk : env.kindOf x = some .cell) (hc : env.cells.lookup x = some a) (ha : σ a = some (.cell u)) (S : Sim prog c ρ σ s) (r : VR s.heap v V)
    (k : ∀ s', Sim prog c ρ (upd σ a (.cell (some V))) s' → Go c.L σ s (upd σ a (.cell (some V))) s' → P () s') : wpAny (model prog w) c.A (storeName env x v) P E s := by
  obtain ⟨hL, h0, o, u', ho, hd, _⟩ := S.obj _ _ ha
  refine wpAny_storeName_cell he.kd hk hc ⟨o, ho, hd⟩ fun h' hi hs => ?_
  obtain ⟨o', ho', hd'⟩ := hi
  have tk : TK s.heap h' := tk_of_same hs ho fun ⟨_, _, _, e⟩ => by rw [hd] at e; cases e
  exact k _ (S.change ha hs (.cell (some V)) _ ⟨o', some v, ho', hd', r.mono tk⟩) (Go.change S ha hs _ _)

theorem EX_nil (h : Q .next ρ σ) : EX prog c (execs [] env) ρ σ Q := fun s S => wpAny_execs_nil ⟨.next, ρ, σ, trivial, S, Go.refl _ _ _, h⟩
def thenX (prog : Program) (c : Cx w K) (env : Env) (rest : List Stmt) (Q : Fl → Loc → St → Prop) : Fl → Loc → St → Prop
  | .next, ρ, σ => EX prog c (execs rest env) ρ σ Q
  | .brk, ρ, σ => Q .brk ρ σ
  | .cont, ρ, σ => Q .cont ρ σ
  | .ret v, ρ, σ => Q (.ret v) ρ σ
theorem FR_next {h : Heap} {fl : Fl} (r : FR h .next fl) : fl = .next := by cases fl <;> first | rfl | exact r.elim
theorem FR_brk {h : Heap} {fl : Fl} (r : FR h .brk fl) : fl = .brk := by cases fl <;> first | rfl | exact r.elim
theorem FR_cont {h : Heap} {fl : Fl} (r : FR h .cont fl) : fl = .cont := by cases fl <;> first | rfl | exact r.elim
theorem FR_ret {h : Heap} {v : Value} {fl : Fl} (r : FR h (.ret v) fl) : ∃ V, fl = .ret V ∧ VR h v V := by cases fl <;> first | exact ⟨_, rfl, r⟩ | exact r.elim
theorem EX_cons {st : Stmt} {rest : List Stmt} (h : EX prog c (exec st env) ρ σ (thenX prog c env rest Q)) : EX prog c (execs (st :: rest) env) ρ σ Q := fun s S =>
  wpAny_execs_cons (h.run S fun f s₁ fl ρ₁ σ₁ r S₁ g₁ q => by
    cases f with
    | next => rw [FR_next r] at q; exact EX.run q S₁ fun f₂ s₂ fl₂ ρ₂ σ₂ r₂ S₂ g₂ q₂ => ⟨fl₂, ρ₂, σ₂, r₂, S₂, g₁.trans g₂, q₂⟩
    | brk => have e := FR_brk r; subst e; exact ⟨.brk, ρ₁, σ₁, trivial, S₁, g₁, q⟩
    | cont => have e := FR_cont r; subst e; exact ⟨.cont, ρ₁, σ₁, trivial, S₁, g₁, q⟩
    | ret v => obtain ⟨V, e, r'⟩ := FR_ret r; subst e; exact ⟨.ret V, ρ₁, σ₁, r', S₁, g₁, q⟩)

theorem EX_Expr {e : PySem.Expr} {pos : Pos} (hi : interactive env = false) (hs : swapsWith e none pos.line env = pure false)
    (h : EV prog c (eval e env) ρ σ fun _ σ₁ => Q .next ρ σ₁) : EX prog c (exec (.Expr e pos) env) ρ σ Q := fun s S =>
  wpAny_Expr_any (h.run S fun v s₁ V σ₁ r S₁ g q => ⟨.next, ρ, σ₁, trivial, S₁, g, q⟩) hi hs
theorem EX_Name {x : Str} {pos' pos : Pos} {value : PySem.Expr} (he : EnvOk c env) (hk : env.kindOf x = some .local) (hs : swapsWith value (some (.Name x pos')) pos.line env = pure false)
    (h : EV prog c (eval value env) ρ σ fun V σ₁ => Q .next (lset ρ x V) σ₁) : EX prog c (exec (.Assign [.Name x pos'] value pos) env) ρ σ Q := fun s S =>
  wpAny_Assign_Name (h.run S fun v s₁ V σ₁ r S₁ g q => store_local he hk S₁ r fun s₂ S₂ g₂ => ⟨.next, _, σ₁, trivial, S₂, g.trans g₂, q⟩) hs
theorem EX_NameC {x : Str} {pos' pos : Pos} {value : PySem.Expr} {a : Addr} (he : EnvOk c env) (hk : env.kindOf x = some .cell) (hc : env.cells.lookup x = some a) (hs : swapsWith value (some (.Name x pos')) pos.line env = pure false)
    (h : EV prog c (eval value env) ρ σ fun V σ₁ => ∃ u, σ₁ a = some (.cell u) ∧ Q .next ρ (upd σ₁ a (.cell (some V)))) : EX prog c (exec (.Assign [.Name x pos'] value pos) env) ρ σ Q := fun s S =>
  wpAny_Assign_Name (h.run S fun v s₁ V σ₁ r S₁ g ⟨u, ha, q⟩ => store_cell he hk hc ha S₁ r fun s₂ S₂ g₂ => ⟨.next, _, _, trivial, S₂, g.trans g₂, q⟩) hs
theorem EX_Aug {x : Str} {pos' pos : Pos} {value : PySem.Expr} {i : Int} (he : EnvOk c env) (hk : env.kindOf x = some .local) (hx : lget ρ x = some (.int i))
    (h : EV prog c (eval value env) ρ σ fun V σ₁ => ∃ j, V = .int j ∧ Q .next (lset ρ x (.int (i + j))) σ₁) : EX prog c (exec (.AugAssign (.Name x pos') .Add value pos) env) ρ σ Q := fun s S => by
  obtain ⟨m, F, R⟩ := S.loc
  obtain ⟨v, hm, r⟩ := R _ _ hx
  cases r
  refine wpAny_AugAssign_Name (wpAny_loadName_local he.kd hk (he.L ▸ F.ns) hm (h.run S fun u s₁ V σ₁ r₁ S₁ g₁ ⟨j, e, q⟩ => ?_))
  subst e; cases r₁
  exact iadd_int (store_local he hk (S₁.toks _) (.int _ _) fun s₂ S₂ g₂ => ⟨.next, _, σ₁, trivial, S₂, (g₁.trans (Go.toks _ _ _)).trans g₂, q⟩)

theorem EX_If {test : PySem.Expr} {body orelse : List Stmt} {pos : Pos}
    (h : TR prog c (isTrue test env (eval test env)) ρ σ fun b σ₁ => if b then EX prog c (execs body env) ρ σ₁ Q else EX prog c (execs orelse env) ρ σ₁ Q) :
    EX prog c (exec (.If test body orelse pos) env) ρ σ Q := fun s S =>
  wpAny_If (h.run S fun b s₁ σ₁ S₁ g₁ h₁ => by
    cases b
    · exact EX.run h₁ S₁ fun f₂ s₂ fl₂ ρ₂ σ₂ r₂ S₂ g₂ q₂ => ⟨fl₂, ρ₂, σ₂, r₂, S₂, g₁.trans g₂, q₂⟩
    · exact EX.run h₁ S₁ fun f₂ s₂ fl₂ ρ₂ σ₂ r₂ S₂ g₂ q₂ => ⟨fl₂, ρ₂, σ₂, r₂, S₂, g₁.trans g₂, q₂⟩)
theorem EX_Return {e : PySem.Expr} {pos : Pos} (h : EV prog c (eval e env) ρ σ fun V σ₁ => Q (.ret V) ρ σ₁) : EX prog c (exec (.Return (some e) pos) env) ρ σ Q := fun s S =>
  wpAny_Return_some (h.run S fun v s₁ V σ₁ r S₁ g q => ⟨.ret V, ρ, σ₁, r, S₁, g, q⟩)
theorem EX_Return0 {pos : Pos} (h : Q (.ret .none) ρ σ) : EX prog c (exec (.Return none pos) env) ρ σ Q := fun s S =>
  wpAny_Return_none ⟨.ret .none, ρ, σ, .none, S, Go.refl _ _ _, h⟩
theorem EX_Break {pos : Pos} (h : Q .brk ρ σ) : EX prog c (exec (.Break pos) env) ρ σ Q := fun s S => wpAny_Break ⟨.brk, ρ, σ, trivial, S, Go.refl _ _ _, h⟩
theorem EX_Continue {pos : Pos} (h : Q .cont ρ σ) : EX prog c (exec (.Continue pos) env) ρ σ Q := fun s S => wpAny_Continue ⟨.cont, ρ, σ, trivial, S, Go.refl _ _ _, h⟩

/-- two names at once -/
theorem EX_Tuple2 {x y : Str} {px py pos' pos : Pos} {k : Nat} {value : PySem.Expr} (he : EnvOk c env) (hkx : env.kindOf x = some .local) (hky : env.kindOf y = some .local)
    (hs : swapsWithSole [.Tuple [.Name x px, .Name y py] k pos'] value pos.line env = pure false) (hw : swappedStores [.Tuple [.Name x px, .Name y py] k pos'] value env = pure none)
    (h : EV prog c (eval value env) ρ σ fun V σ₁ => ∃ a b, V = .tup [a, b] ∧ Q .next (lset (lset ρ x a) y b) σ₁) : EX prog c (exec (.Assign [.Tuple [.Name x px, .Name y py] k pos'] value pos) env) ρ σ Q := fun s S => by
  refine Assign_Tuple (h.run S fun v s₁ V σ₁ r S₁ g₁ ⟨a, b, e, q⟩ => ?_) hs hw
  subst e
  cases r with
  | @tup t items _ ht hv =>
    have hsz : items.size = 2 := by have := hv.length; simpa using this
    refine wpAny_assign_Tuple c.hh ht (by rw [hsz]; rfl) rfl fun h' k' => ?_
    have k := ext_of_fresh k'
    obtain ⟨l⟩ := items
    cases hv with
    | cons ra hv => cases hv with
      | cons rb hv =>
        cases hv
        show wpAny _ _ (assignInOrder [assign (.Name x px) env, assign (.Name y py) env] [_, _]) _ _ _
        refine wpAny_assignInOrder_more (wpAny_assign_Name (store_local he hkx (S₁.ext s₁.toks k) (ra.mono (tk_of_ext k)) fun s₂ S₂ g₂ => ?_))
        refine wpAny_assignInOrder_more (wpAny_assign_Name (store_local he hky S₂ ((rb.mono (tk_of_ext k)).mono g₂.tk) fun s₃ S₃ g₃ => ?_))
        exact wpAny_assignInOrder_none ⟨.next, _, σ₁, trivial, S₃, ((g₁.trans (Go.ext _ _ _ k)).trans g₂).trans g₃, q⟩

/-! while -/
def loopX (P : Loc → St → Prop) (Q : Fl → Loc → St → Prop) : Fl → Loc → St → Prop
  | .next, ρ, σ => P ρ σ
  | .cont, ρ, σ => P ρ σ
  | .brk, ρ, σ => Q .next ρ σ
  | .ret v, ρ, σ => Q (.ret v) ρ σ
def WH (prog : Program) (c : Cx w K) (test : PySem.Expr) (body : List Stmt) (env : Env) (ρ : Loc) (σ : St) (Q : Fl → Loc → St → Prop) : Prop :=
  ∀ s, Sim prog c ρ σ s → codeAny (model prog w) c.A (.whileLoop test body [] env) (fun r s' => match r with
    | .ok f => ∃ fl ρ' σ', FR s'.heap f fl ∧ Sim prog c ρ' σ' s' ∧ Go c.L σ s σ' s' ∧ Q fl ρ' σ'
    | .error _ => False) s
theorem WH.sub {test : PySem.Expr} {body : List Stmt} {ρ' : Loc} (hs : ∀ x V, lget ρ' x = some V → lget ρ x = some V) (h : WH prog c test body env ρ' σ Q) : WH prog c test body env ρ σ Q := fun s S => h s (S.sub hs)
theorem WH_step {test : PySem.Expr} {body : List Stmt} 
    (h : TR prog c (isTrue test env (eval test env)) ρ σ fun b σ₁ => if b then EX prog c (execs body env) ρ σ₁ (loopX (fun ρ₂ σ₂ => WH prog c test body env ρ₂ σ₂ Q) Q) else Q .next ρ σ₁) :
    WH prog c test body env ρ σ Q := fun s S => by
  refine codeAny_of_tree ?_
  show wpAny _ c.A ((whileTurn test body [] env).onRaise (fun x => do noteFrame x env; theTreesLotGoes x)) _ _ s
  refine wpAny_onRaise (wpAny_mono (Q := _) (E := fun _ _ => False) ?_ (fun _ _ x => x) fun _ _ x => x.elim)
  simp only [whileTurn]
  refine wpAny_bind (h.run S fun b s₁ σ₁ S₁ g₁ h₁ => ?_)
  cases b with
  | false =>
    simp only [Bool.false_eq_true, if_false] at h₁ ⊢
    exact wpAny_bind (wpAny_execs_nil (wpAny_pure ⟨.next, ρ, σ₁, trivial, S₁, g₁, h₁⟩))
  | true =>
    simp only [if_true] at h₁ ⊢
    refine wpAny_bind (EX.run h₁ S₁ fun f s₂ fl ρ₂ σ₂ r S₂ g₂ q => ?_)
    have nx : WH prog c test body env ρ₂ σ₂ Q → codeAny (model prog w) c.A (.whileLoop test body [] env) (fun r s' => match r with
        | .ok f => ∃ fl ρ' σ', FR s'.heap f fl ∧ Sim prog c ρ' σ' s' ∧ Go c.L σ s σ' s' ∧ Q fl ρ' σ'
        | .error _ => False) s₂ := fun W => codeAny_mono (W s₂ S₂) fun r s' hr => by
      cases r with
      | ok f => obtain ⟨fl, ρ', σ', a, b, g, q⟩ := hr; exact ⟨fl, ρ', σ', a, b, (g₁.trans g₂).trans g, q⟩
      | error e => exact hr
    cases f with
    | next => rw [FR_next r] at q; exact wpAny_pure ⟨rfl, nx q⟩
    | cont => rw [FR_cont r] at q; exact wpAny_pure ⟨rfl, nx q⟩
    | brk => rw [FR_brk r] at q; exact wpAny_pure ⟨.next, ρ₂, σ₂, trivial, S₂, g₁.trans g₂, q⟩
    | ret v => obtain ⟨V, e, r'⟩ := FR_ret r; subst e; exact wpAny_pure ⟨.ret V, ρ₂, σ₂, r', S₂, g₁.trans g₂, q⟩
theorem EX_While {test : PySem.Expr} {body : List Stmt} {pos : Pos} (h : WH prog c test body env ρ σ Q) : EX prog c (exec (.While test body [] pos) env) ρ σ Q := fun s S =>
  wpAny_While (codeAny_mono (h s S) fun r s' hr => by
    cases r with
    | ok f => exact hr
    | error e => exact hr.elim)
end
end RH
set_option Elab.async false
set_option maxRecDepth 10000
set_option linter.all false
namespace RH
open PySem PySem.W PySem.Calls PyProof.Rows

/-! the hidden part -/
def domL (σ : St) (h : Heap) : List Addr := (List.range h.objs.size).filter fun a => (σ a).isSome
def hideS (σ : St) (h : Heap) : Heap := hideAll h (domL σ h)
theorem hideS_size (σ : St) (h : Heap) : (hideS σ h).objs.size = h.objs.size := hideAll_size _ _
theorem hideS_some {σ : St} {h : Heap} {b : Addr} {o : Obj} (e : h.get? b = some o) (n : σ b = none) : (hideS σ h).get? b = some o :=
  hideAll_get _ e fun m => by have := (List.mem_filter.mp m).2; rw [n] at this; cases this
theorem hideS_none {σ : St} {h : Heap} {b : Addr} (n : σ b ≠ none) : (hideS σ h).get? b = none := by
  by_cases hb : b < h.objs.size
  · exact hideAll_none _ (List.mem_filter.mpr ⟨List.mem_range.mpr hb, by cases q : σ b with | none => exact absurd q n | some _ => rfl⟩)
  · exact Heap.get?_none_of_le (by rw [hideS_size]; exact Nat.not_lt.mp hb)
theorem of_hideS {σ : St} {h : Heap} {b : Addr} {o : Obj} (e : (hideS σ h).get? b = some o) : h.get? b = some o := of_hideAll _ e

section
variable {prog : Program} {w : World} {K : Frag} {c : Cx w K} {ρ : Loc} {σ : St} {env : Env} {Q : Fl → Loc → St → Prop}

/-- back from a callee, or from a comprehension -/
theorem Sim.back {c' : Cx w K} {ρ' : Loc} {σ' : St} {s s' : Shared} (S : Sim prog c ρ σ s) (k1 : ∀ b o, s.heap.get? b = some o → σ b = none → c'.h₀.get? b = some o) (S' : Sim prog c' ρ' σ' s')
    (st : ∃ h tk, s' = { s with heap := h, toks := tk }) : Sim prog c ρ σ' s' ∧ Go c.L σ s σ' s' := by
  obtain ⟨m', F'⟩ := S'.fr
  obtain ⟨m, F, R⟩ := S.loc
  have k2 : ∀ b o, s.heap.get? b = some o → σ b = none → s'.heap.get? b = some o := fun b o e n => F'.keep b o (k1 b o e n)
  have tk : TK s.heap s'.heap := fun b items ⟨o, e, hc, n, hd⟩ => by
    refine ⟨o, k2 b o e ?_, hc, n, hd⟩
    cases q : σ b with
    | none => rfl
    | some ao =>
      obtain ⟨ob, ho, hn⟩ := (S.obj b ao q).2.2.nt
      rw [e] at ho; cases ho
      exact absurd ⟨hc, items, n, hd⟩ hn
  have hσL : σ c.L = none := by
    cases q : σ c.L with
    | none => rfl
    | some ao => exact absurd rfl (S.obj _ _ q).1
  obtain ⟨oL, es, ep, hL, r⟩ := F.ns
  have new : ∀ b, σ' b ≠ none → c'.h₀.get? b = none := fun b h => by
    cases q : σ' b with
    | none => exact absurd q h
    | some ao => exact (S'.obj b ao q).2.1
  refine ⟨⟨⟨m, ⟨⟨oL, es, ep, k2 _ _ hL hσL, r⟩, fun b o e => k2 b o (F.keep b o e) ?_, F.above⟩, fun x V e => let ⟨v, hv, rr⟩ := R x V e; ⟨v, hv, rr.mono tk⟩⟩, fun a ao e => ⟨?_, ?_, (S'.obj a ao e).2.2⟩⟩, st, fun b o n _ e => k2 b o e n, tk, fun b n n' => ⟨?_, ?_⟩⟩
  · cases q : σ b with
    | none => rfl
    | some ao => have := (S.obj b ao q).2.1; rw [e] at this; cases this
  · intro z
    have := new a (by rw [e]; simp)
    rw [z, k1 _ _ hL hσL] at this; cases this
  · cases q : c.h₀.get? a with
    | none => rfl
    | some o =>
      have h1 := F.keep a o q
      have h2 : σ a = none := by
        cases z : σ a with
        | none => rfl
        | some ao => have := (S.obj a ao z).2.1; rw [q] at this; cases this
      have := new a (by rw [e]; simp)
      rw [k1 _ _ h1 h2] at this; cases this
  · intro z
    have := new b n'
    rw [z, k1 _ _ hL hσL] at this; cases this
  · cases q : s.heap.get? b with
    | none => rfl
    | some o => have := new b n'; rw [k1 _ _ q n] at this; cases this

/-! iterators -/
structure ITR (prog : Program) (w : World) (A : Around) (I : Addr) (xs : List V) (fact : Nat → St → Heap → Prop) (ok : St → Prop) : Prop where
  there : ∀ i σ h, fact i σ h → ∃ ob, h.get? I = some ob ∧ NT ob
  item : ∀ i x σ (s : Shared) (P : Option Value → Shared → Prop) (E : Value → Shared → Prop), xs[i]? = some x → fact i σ s.heap → (∀ a o, σ a = some o → OR prog w s.heap a o) →
    (∀ v h' tk, VR h' v x → fact (i + 1) σ h' → Heap.ExtBut I s.heap h' → P (some v) { s with heap := h', toks := tk }) → wpAny (model prog w) A (pyNext (.ref I)) P E s
  done : ∀ σ (s : Shared) (P : Option Value → Shared → Prop) (E : Value → Shared → Prop), fact xs.length σ s.heap → (∀ a o, σ a = some o → OR prog w s.heap a o) →
    (∀ h' tk, Heap.ExtBut I s.heap h' → P none { s with heap := h', toks := tk }) → wpAny (model prog w) A (pyNext (.ref I)) P E s
  frame : ∀ i σ σ' h h', fact i σ h → ok σ' → (∀ o, h.get? I = some o → h'.get? I = some o) → TK h h' → fact i σ' h'
  self : ∀ i σ (s : Shared) (P : Value → Shared → Prop) (E : Value → Shared → Prop), fact i σ s.heap → P (.ref I) s → wpAny (model prog w) A (pyIter (.ref I)) P E s

def factL (I a : Addr) (xs : List V) (i : Nat) (σ : St) (h : Heap) : Prop := h.IsListIter I a i ∧ σ a = some (.list xs)
def factT (I a : Addr) (xs : List V) (i : Nat) (σ : St) (h : Heap) : Prop := h.IsTupleIter I a i ∧ ∃ items, h.IsTuple a items ∧ VRs h items.toList xs
def factR (I : Addr) (n : Nat) (i : Nat) (σ : St) (h : Heap) : Prop := IsRangeIter h I (i : Int) ((n : Int) - i) 1

theorem items_get {h : Heap} {items : Array Value} {xs : List V} (r : VRs h items.toList xs) {i : Nat} {x : V} (e : xs[i]? = some x) : ∃ v, items[i]? = some v ∧ VR h v x := by
  obtain ⟨v, hv, rv⟩ := r.get e
  exact ⟨v, by simpa using hv, rv⟩

theorem ITR.list {A : Around} (hh : A.handled = none) (I a : Addr) (xs : List V) : ITR prog w A I xs (factL I a xs) (fun σ => σ a = some (.list xs)) where
  there := fun i σ h ⟨⟨o, ho, hc, hd⟩, _⟩ => ⟨o, ho, fun ⟨e, _⟩ => by rw [hc] at e; simp at e⟩
  item := fun i x σ s P E hx ⟨hi, ha⟩ hO k => by
    obtain ⟨items, hl, hv⟩ := hO _ _ ha
    obtain ⟨v, he, rv⟩ := items_get hv hx
    refine wpAny_pyNext_list_item hi hl.isList he fun h' hi' hs => k v h' _ ?_ ⟨hi', ha⟩ hs.extBut
    obtain ⟨o, ho, hc, hd⟩ := hi
    exact rv.mono (tk_of_same hs ho fun ⟨e, _⟩ => by rw [hc] at e; simp at e)
  done := fun σ s P E ⟨hi, ha⟩ hO k => by
    obtain ⟨items, hl, hv⟩ := hO _ _ ha
    exact wpAny_pyNext_list_end hh hi hl.isList (by have := hv.length; simp at this; simp [this]) fun h' he => k h' _ he
  frame := fun i σ σ' h h' ⟨⟨o, ho, q⟩, _⟩ ok k _ => ⟨⟨o, k o ho, q⟩, ok⟩
  self := fun i σ s P E ⟨hi, _⟩ h => wpAny_pyIter_listiter hi h

theorem ITR.tuple {A : Around} (hh : A.handled = none) (I a : Addr) (xs : List V) : ITR prog w A I xs (factT I a xs) (fun _ => True) where
  there := fun i σ h ⟨⟨o, ho, hc, hd⟩, _⟩ => ⟨o, ho, fun ⟨e, _⟩ => by rw [hc] at e; simp at e⟩
  item := fun i x σ s P E hx ⟨hi, items, ht, hv⟩ hO k => by
    obtain ⟨v, he, rv⟩ := items_get hv hx
    refine wpAny_pyNext_tuple_item hi ht he fun h' hi' hs => ?_
    obtain ⟨o, ho, hc, hd⟩ := hi
    have tk : TK s.heap h' := tk_of_same hs ho fun ⟨e, _⟩ => by rw [hc] at e; simp at e
    exact k v h' _ (rv.mono tk) ⟨hi', items, tk _ _ ht, hv.mono tk⟩ hs.extBut
  done := fun σ s P E ⟨hi, items, ht, hv⟩ hO k =>
    wpAny_pyNext_tuple_end hh hi ht (by have := hv.length; simp at this; simp [this]) fun h' he => k h' _ he
  frame := fun i σ σ' h h' ⟨⟨o, ho, q⟩, items, ht, hv⟩ ok k tk => ⟨⟨o, k o ho, q⟩, items, tk _ _ ht, hv.mono tk⟩
  self := fun i σ s P E ⟨hi, _, ht, _⟩ h => (Walks.tuple hh I a (fun e => by
      obtain ⟨o, ho, hc, _⟩ := hi
      obtain ⟨o', ho', hc', _⟩ := ht
      subst e; rw [ho] at ho'; cases ho'; rw [hc] at hc'; simp at hc') _).self i _ _ _ ⟨hi, ht⟩ h

def rangeV (n : Nat) : List V := (List.range n).map fun i => V.int (i : Nat)
theorem ITR.range {A : Around} (hh : A.handled = none) (I : Addr) (n : Nat) : ITR prog w A I (rangeV n) (factR I n) (fun _ => True) where
  there := fun i σ h e => ⟨_, e, fun ⟨e, _⟩ => by simp at e⟩
  item := fun i x σ s P E hx hi hO k => by
    have hi' : i < n ∧ x = .int (i : Nat) := by
      unfold rangeV at hx
      rw [List.getElem?_map] at hx
      by_cases h : i < n
      · rw [List.getElem?_range h] at hx; simp at hx; exact ⟨h, hx.symm⟩
      · rw [List.getElem?_eq_none (by simpa using h)] at hx; cases hx
    obtain ⟨hlt, rfl⟩ := hi'
    refine wpAny_pyNext_range_item hi (by omega) fun h' e hs => k _ h' _ (.int _ _) ?_ hs.extBut
    show IsRangeIter h' I ((i + 1 : Nat) : Int) ((n : Int) - ((i + 1 : Nat) : Int)) 1
    have e1 : ((i + 1 : Nat) : Int) = (i : Int) + 1 := by omega
    have e2 : (n : Int) - ((i : Int) + 1) = (n : Int) - i - 1 := by omega
    rw [e1, e2]; exact e
  done := fun σ s P E hi hO k => by
    have hl : (rangeV n).length = n := by simp [rangeV]
    unfold factR at hi
    rw [hl] at hi
    exact wpAny_pyNext_range_end hh hi (by omega) fun h' he => k h' _ he
  frame := fun i σ σ' h h' e _ k _ => k _ e
  self := fun i σ s P E e h => (Walks.range hh I 0 1 n).self i _ _ _ (by
    show IsRangeIter s.heap I (0 + (i : Nat) * 1) ((n : Int) - (i : Nat)) 1
    rw [show (0 + (i : Int) * 1) = (i : Int) by omega]; exact e) h

/-- what can be walked: from a value to its iterator -/
inductive IsIt (σ : St) : V → List V → (St → Prop) → Prop
  | list {a : Addr} {xs : List V} : σ a = some (.list xs) → IsIt σ (.loc a) xs (fun σ' => σ' a = some (.list xs))
  | tuple {xs : List V} : IsIt σ (.tup xs) xs (fun _ => True)
  | range {a : Addr} {n : Nat} {t u v : Tok} : n ≤ 1000000 → σ a = some (.raw { cls := .type "range", data := .fields #[.int 0 t, .int (n : Nat) u, .int 1 v] }) → IsIt σ (.loc a) (rangeV n) (fun _ => True)

theorem range_small {n : Nat} (h : n ≤ 1000000) : Builtin.Range.small 0 (n : Int) 1 = true ∧ Builtin.Range.rangeSize 0 (n : Int) 1 = n := by
  have e : Builtin.Range.rangeSize 0 (n : Int) 1 = n := by
    unfold Builtin.Range.rangeSize
    by_cases h0 : n = 0
    · subst h0; rfl
    · simp; omega
  refine ⟨?_, e⟩
  unfold Builtin.Range.small
  rw [e]
  simp [Builtin.Range.rangeFitsLong]
  omega

theorem pyIter_is {X : V} {xs : List V} {ok : St → Prop} {v : Value} {s : Shared} {P : Value → Shared → Prop} {E : Value → Shared → Prop} (hi : IsIt σ X xs ok) (S : Sim prog c ρ σ s) (r : VR s.heap v X)
    (k : ∀ o fact, o.isFreed = false → ITR prog w c.A s.heap.objs.size xs fact ok → fact 0 σ (s.heap.push o) → P (.ref s.heap.objs.size) { s with heap := s.heap.push o }) : wpAny (model prog w) c.A (pyIter v) P E s := by
  cases hi with
  | @list a xs ha =>
    cases r
    obtain ⟨_, _, items, hl, hv⟩ := S.obj _ _ ha
    refine wpAny_pyIter_list hl.isList (k _ _ rfl (ITR.list c.hh _ _ _) ⟨⟨_, Heap.get?_push_size _ rfl, rfl, rfl⟩, ha⟩)
  | @tuple xs =>
    cases r with
    | @tup a items _ ht hv =>
      refine wpAny_pyIter_tuple ht (k _ _ rfl (ITR.tuple c.hh _ a _) ⟨⟨_, Heap.get?_push_size _ rfl, rfl, rfl⟩, items, ht.push _, hv.mono (TK.push _ _)⟩)
  | @range a n t u v hn ha =>
    cases r
    obtain ⟨_, _, hr, _⟩ := S.obj _ _ ha
    obtain ⟨h1, h2⟩ := range_small hn
    refine wpAny_pyIter_range (a := 0) (b := (n : Int)) (c := 1) hr h1 ?_
    rw [h2]
    refine k _ _ rfl (ITR.range c.hh _ n) ?_
    show IsRangeIter _ _ ((0 : Nat) : Int) ((n : Int) - ((0 : Nat) : Int)) 1
    rw [show ((n : Int) - ((0 : Nat) : Int)) = (n : Int) by omega]
    exact Heap.get?_push_size _ rfl

/-! for -/
def FB (prog : Program) (c : Cx w K) (x : Str) (body : List Stmt) (env : Env) (ok : St → Prop) : List V → Loc → St → (Fl → Loc → St → Prop) → Prop
  | [], ρ, σ, Q => Q .next ρ σ
  | v :: vs, ρ, σ, Q => EX prog c (execs body env) (lset ρ x v) σ (loopX (fun ρ' σ' => ok σ' ∧ FB prog c x body env ok vs ρ' σ' Q) Q)
theorem FB.sub {x : Str} {body : List Stmt} {ok : St → Prop} : ∀ {vs : List V} {ρ ρ' : Loc}, (∀ y V, lget ρ' y = some V → lget ρ y = some V) → vs ≠ [] → FB prog c x body env ok vs ρ' σ Q → FB prog c x body env ok vs ρ σ Q
  | [], _, _, _, h, _ => absurd rfl h
  | v :: vs, ρ, ρ', hs, _, h => EX.sub (fun y V e => by
      rw [lget_lset] at e ⊢
      split
      · rename_i z; rw [if_pos z] at e; exact e
      · rename_i z; rw [if_neg z] at e; exact hs y V e) h

theorem for_loop {I : Addr} {xs : List V} {fact : Nat → St → Heap → Prop} {ok : St → Prop} {x : Str} {px : Pos} {body : List Stmt} {σ₀ : St} {s₀ : Shared} (W : ITR prog w c.A I xs fact ok) (he : EnvOk c env) (hx : env.kindOf x = some .local) (hI0 : s₀.heap.get? I = none) (hIL : I ≠ c.L) (hIh : c.h₀.get? I = none) :
    ∀ (vs : List V) (i : Nat) (ρ : Loc) (σ : St) (s : Shared), xs.drop i = vs → i ≤ xs.length → Sim prog c ρ σ s → Go c.L σ₀ s₀ σ s → σ I = none → fact i σ s.heap → FB prog c x body env ok vs ρ σ Q →
      codeAny (model prog w) c.A (.forLoop (.Name x px) (.ref I) body [] env) (fun r s' => match r with
        | .ok f => ∃ fl ρ' σ', FR s'.heap f fl ∧ Sim prog c ρ' σ' s' ∧ Go c.L σ₀ s₀ σ' s' ∧ Q fl ρ' σ'
        | .error _ => False) s := by
  intro vs
  induction vs with
  | nil =>
    intro i ρ σ s hd hle S g hσ hf h
    refine codeAny_of_tree ?_
    show wpAny _ c.A ((forTurn (.Name x px) (.ref I) body [] env).onRaise (fun x => do noteFrame x env; theTreesLotGoes x)) _ _ s
    refine wpAny_onRaise (wpAny_mono (Q := _) (E := fun _ _ => False) ?_ (fun _ _ x => x) fun _ _ x => x.elim)
    simp only [forTurn]
    have hi : i ≥ xs.length := by simpa using hd
    have hf' : fact xs.length σ s.heap := by
      have hq : i = xs.length := Nat.le_antisymm hle hi
      exact hq ▸ hf
    obtain ⟨ob, ho, hn⟩ := W.there _ _ _ hf
    refine wpAny_bind (wpAny_standAt (wpAny_bind (wpAny_onRaise (W.done σ s _ _ hf' (fun a o e => (S.obj a o e).2.2) fun h' tk hx' => ?_))))
    exact wpAny_pure ⟨rfl, codeAny_block (wpAny_execs_nil ⟨.next, ρ, σ, trivial, S.but hσ hIL hIh ho hn hx' tk, g.but hI0 ho hn hx' tk, h⟩)⟩
  | cons v vs ih =>
    intro i ρ σ s hd hle S g hσ hf h
    refine codeAny_of_tree ?_
    show wpAny _ c.A ((forTurn (.Name x px) (.ref I) body [] env).onRaise (fun x => do noteFrame x env; theTreesLotGoes x)) _ _ s
    refine wpAny_onRaise (wpAny_mono (Q := _) (E := fun _ _ => False) ?_ (fun _ _ x => x) fun _ _ x => x.elim)
    simp only [forTurn]
    have hv : xs[i]? = some v := by
      have := congrArg (·[0]?) hd
      simpa using this
    have hd' : xs.drop (i + 1) = vs := by
      have := congrArg List.tail hd
      simpa using this
    obtain ⟨ob, ho, hn⟩ := W.there _ _ _ hf
    refine wpAny_bind (wpAny_standAt (wpAny_bind (wpAny_onRaise (W.item i v σ s _ _ hv hf (fun a o e => (S.obj a o e).2.2) fun u h' tk ru hf₁ hx' => ?_))))
    have S₁ := S.but hσ hIL hIh ho hn hx' tk
    have g₁ := g.but hI0 ho hn hx' tk
    refine wpAny_bind (wpAny_of_eq (a := ()) (by rfl) ?_)
    refine wpAny_bind (wpAny_assign_Name (store_local he hx S₁ ru fun s₂ S₂ g₂ => ?_))
    obtain ⟨ob₁, ho₁, hn₁⟩ := W.there _ _ _ hf₁
    refine wpAny_bind (EX.run h S₂ fun f s₃ fl ρ₃ σ₃ r S₃ g₃ q => ?_)
    have g' := (g₁.trans g₂).trans g₃
    have ho₂ := g₂.keep I ob₁ hσ hIL ho₁
    have ho₃ := g₃.keep I ob₁ hσ hIL ho₂
    have hσ₃ : σ₃ I = none := by
      cases q : σ₃ I with
      | none => rfl
      | some ao => exact absurd (g₃.new I hσ (by rw [q]; simp)).2 (by rw [ho₂]; simp)
    have nx : (ok σ₃ ∧ FB prog c x body env ok vs ρ₃ σ₃ Q) → codeAny (model prog w) c.A (.forLoop (.Name x px) (.ref I) body [] env) (fun r s' => match r with
        | .ok f => ∃ fl ρ' σ', FR s'.heap f fl ∧ Sim prog c ρ' σ' s' ∧ Go c.L σ₀ s₀ σ' s' ∧ Q fl ρ' σ'
        | .error _ => False) s₃ := fun ⟨hok, hfb⟩ =>
      ih (i + 1) ρ₃ σ₃ s₃ hd' (Nat.succ_le_of_lt (List.getElem?_eq_some_iff.mp hv).1) S₃ g' hσ₃ (W.frame _ _ _ _ _ hf₁ hok (fun o e => by rw [ho₁] at e; cases e; exact ho₃) (g₂.tk.trans g₃.tk)) hfb
    cases f with
    | next => rw [FR_next r] at q; exact wpAny_pure ⟨rfl, nx q⟩
    | cont => rw [FR_cont r] at q; exact wpAny_pure ⟨rfl, nx q⟩
    | brk => rw [FR_brk r] at q; exact wpAny_pure ⟨.next, ρ₃, σ₃, trivial, S₃, g', q⟩
    | ret v => obtain ⟨V, e, r'⟩ := FR_ret r; subst e; exact wpAny_pure ⟨.ret V, ρ₃, σ₃, r', S₃, g', q⟩

theorem EX_For {x : Str} {px pos : Pos} {iter : PySem.Expr} {body : List Stmt} (he : EnvOk c env) (hx : env.kindOf x = some .local) (hs : ∀ x, foldedSetIterable iter env x = pure x)
    (h : EV prog c (eval iter env) ρ σ fun X σ₁ => ∃ xs ok, IsIt σ₁ X xs ok ∧ FB prog c x body env ok xs ρ σ₁ Q) : EX prog c (exec (.For (.Name x px) iter body [] pos) env) ρ σ Q := fun s S =>
  wpAny_For (h.run S fun v s₁ X σ₁ r S₁ g₁ ⟨xs, ok, hi, hb⟩ => pyIter_is hi S₁ r fun o fact hfr W hf => by
    have S₂ := S₁.pushT o s₁.toks
    refine codeAny_mono (for_loop (σ₀ := σ₁) (s₀ := s₁) W he hx (Heap.get?_none_of_le (Nat.le_refl _)) S₁.sizeNe S₁.size₀ xs 0 ρ σ₁ _ rfl (Nat.zero_le _) S₂ (Go.pushT _ _ _ _) S₁.freshAt hf hb) fun r s' hr => ?_
    cases r with
    | ok f => obtain ⟨fl, ρ', σ', a, b, g, q⟩ := hr; exact ⟨fl, ρ', σ', a, b, g₁.trans g, q⟩
    | error e => exact hr.elim) hs
end
end RH
set_option Elab.async false
set_option maxRecDepth 10000
set_option linter.all false
namespace RH
open PySem PySem.W PySem.Calls PyProof.Rows

def retV : Fl → V
  | .ret v => v
  | _ => .none
def locV (kindOf : Str → Option NameKind) : List (Str × V) → Loc → Loc
  | [], ρ => ρ
  | (n, v) :: r, ρ => locV kindOf r (if kindOf n = some .local then lset ρ n v else ρ)
def celV (kindOf : Str → Option NameKind) : List (Str × V) → (Str → Option V) → Str → Option V
  | [], m => m
  | (n, v) :: r, m => celV kindOf r (if kindOf n = some .local then m else fun y => if y = n then some v else m y)
def cellS (cv : Str → Option V) (σ : St) : List (Str × Addr) → St
  | [] => σ
  | (n, a) :: r => upd (cellS cv σ r) a (.cell (cv n))

theorem LR_set {h : Heap} {ρ : Loc} {m : Str → Option Value} {n : Str} {v : Value} {x : V} (R : LR h ρ m) (r : VR h v x) : LR h (lset ρ n x) (fun y => if y = n then some v else m y) := fun y V e => by
  rw [lget_lset] at e
  by_cases q : y = n
  · rw [if_pos q] at e; cases e; exact ⟨v, if_pos q, r⟩
  · rw [if_neg q] at e; obtain ⟨u, hu, ru⟩ := R y V e; exact ⟨u, (if_neg q).trans hu, ru⟩
theorem LR_bind {h : Heap} (kindOf : Str → Option NameKind) : ∀ (names : List Str) (vs : List Value) (xs : List V) (ρ : Loc) (m : Str → Option Value), VRs h vs xs → LR h ρ m → LR h (locV kindOf (names.zip xs) ρ) (bindL kindOf (names.zip vs) m)
  | [], _, _, _, _, _, R => by simpa [locV, bindL] using R
  | n :: ns, _, _, ρ, m, .nil, R => by simpa [locV, bindL] using R
  | n :: ns, _, _, ρ, m, .cons a b, R => by
    simp only [List.zip_cons_cons, locV, bindL]
    split
    · exact LR_bind kindOf ns _ _ _ _ b (LR_set R a)
    · exact LR_bind kindOf ns _ _ _ _ b R
theorem CR_bind {h : Heap} (kindOf : Str → Option NameKind) : ∀ (names : List Str) (vs : List Value) (xs : List V) (cv : Str → Option V) (m : Str → Option Value), VRs h vs xs → (∀ n, CR h (m n) (cv n)) → ∀ n, CR h (bindC kindOf (names.zip vs) m n) (celV kindOf (names.zip xs) cv n)
  | [], _, _, _, _, _, R => by simpa [celV, bindC] using R
  | n :: ns, _, _, _, _, .nil, R => by simpa [celV, bindC] using R
  | n :: ns, _, _, cv, m, .cons a b, R => by
    simp only [List.zip_cons_cons, celV, bindC]
    split
    · exact CR_bind kindOf ns _ _ _ _ b R
    · refine CR_bind kindOf ns _ _ _ _ b fun y => ?_
      by_cases q : y = n
      · simp only [if_pos q]; exact a
      · simp only [if_neg q]; exact R y

section
variable {prog : Program} {w : World} {K : Frag} {c : Cx w K} {ρ : Loc} {σ : St} {env : Env} {Q : V → St → Prop}

theorem Sim.hidden {s : Shared} (S : Sim prog c ρ σ s) : ∃ m, Fr c.h₀ c.L (hideS σ s.heap) m := by
  obtain ⟨m, F⟩ := S.fr
  obtain ⟨oL, es, ep, hL, r⟩ := F.ns
  have n : ∀ b o, c.h₀.get? b = some o → σ b = none := fun b o e => by
    cases q : σ b with
    | none => rfl
    | some ao => have := (S.obj _ _ q).2.1; rw [e] at this; cases this
  have nL : σ c.L = none := by
    cases q : σ c.L with
    | none => rfl
    | some ao => exact absurd rfl (S.obj _ _ q).1
  exact ⟨m, ⟨oL, es, ep, hideS_some hL nL, r⟩, fun b o e => hideS_some (F.keep b o e) (n b o e), F.above⟩

/-- a call by its address -/
def CF (prog : Program) (c : Cx w K) (f : Addr) (xs : List V) (ρ : Loc) (σ : St) (Q : V → St → Prop) : Prop :=
  ∀ s vs, Sim prog c ρ σ s → VRs s.heap vs xs → codeAny (model prog w) c.A (.call (.ref f) ⟨vs, []⟩) (fun r s' => match r with
    | .ok (.ret v) => ∃ V σ', VR s'.heap v V ∧ Sim prog c ρ σ' s' ∧ Go c.L σ s σ' s' ∧ Q V σ'
    | .ok _ => False
    | .error _ => False) s
theorem CF.op {f : Addr} {xs : List V} (h : CF prog c f xs ρ σ Q) : OPn prog c (fun vs => call (.ref f) vs) xs ρ σ Q := fun s vs S rs => wpAny_call (h s vs S rs)
theorem CF.mono {f : Addr} {xs : List V} {Q' : V → St → Prop} (h : CF prog c f xs ρ σ Q) (k : ∀ v σ', Q v σ' → Q' v σ') : CF prog c f xs ρ σ Q' := fun s vs S rs => codeAny_mono (h s vs S rs) fun r s' hr => by
  cases r with
  | error e => exact hr
  | ok fl => cases fl with
    | ret v => obtain ⟨V, σ', a, b, g, q⟩ := hr; exact ⟨V, σ', a, b, g, k _ _ q⟩
    | next => exact hr
    | brk => exact hr
    | cont => exact hr

/-- the callee's context -/
def Cx.callee (c : Cx w K) (h₀ : Heap) (hF : ∃ m, Fr c.h₀ c.L h₀ m) (env : Env) (L : Addr) (hf : env.frame = some L) (hk : env.scope.kind = .function) (d : Nat) (hd : d + 1 = c.d) : Cx w K where
  A := c.A.deeper env
  L := L
  h₀ := h₀
  d := d
  p := c.p
  loose := c.loose
  mean := c.mean
  mg := c.mg
  mb := c.mb
  base := c.base
  frs := env :: c.frs
  hA := by show c.A.frames.map _ = _; rw [c.hA]; rfl
  BB := fun g m F => pushX (by obtain ⟨m, F⟩ := hF; exact c.BB h₀ m F) F hf hk
  X := by obtain ⟨m, F⟩ := hF; exact c.X.keeps F.keep
  T := by obtain ⟨m, F⟩ := hF; exact c.T.keeps F.keep
  hh := c.hh
  dp := by have := c.dp; show c.A.depth + 1 + d < 1000; omega
  un := by have := c.un; show c.A.units + 3 + 20 * d < 9900; omega

theorem CF_fn {names : List Str} {args : List V} {name qual : Str} {params : Arguments} {body : List Stmt} {scope : Scope} {cl : List (Str × Addr)} {dV kV doc pm cdv ct : Value} {an : Option Addr} {f : Addr} {d : Nat} (hd : d + 1 = c.d)
    (ho : ∀ s, Sim prog c ρ σ s → (∃ fo, s.heap.get? f = some fo ∧ fo.data = .func (fnX name qual params body scope cl dV kV doc pm an cdv ct)) ∧ s.heap.CodeRec cdv qual)
    (hbind : ∀ s vs, Sim prog c ρ σ s → vs.length = args.length → BindsTo s (fnX name qual params body scope cl dV kV doc pm an cdv ct) ⟨vs, []⟩ (names.zip vs))
    (hlen : names.length = args.length) (hnd : names.Nodup) (hloc : ∀ x ∈ names, scope.names.lookup x = some .local) (hcell : ∀ x ∈ scope.names, x.2 ≠ .cell)
    (hco : scope.isCoroutine = false) (hgen : scope.isGenerator = false) (hk : scope.kind = .function)
    (h : ∀ c' : Cx w K, c'.d = d → EnvOk c' (envX qual scope c'.L f cdv cl) → EX prog c' (execs body (envX qual scope c'.L f cdv cl)) (names.zip args) σ (fun fl _ σ' => Q (retV fl) σ')) :
    CF prog c f args ρ σ Q := fun s vs S rs => by
  obtain ⟨⟨fo, hfo, hfd⟩, hcr⟩ := ho s S
  obtain ⟨m, F⟩ := S.fr
  have hl : vs.length = args.length := rs.length
  refine codeAny_call_def (fd := fnX name qual params body scope cl dV kV doc pm an cdv ct) (body := body) (binds := names.zip vs) (by have := c.dp; show c.A.depth < 1000; omega) hfo hfd (c.T.nolimit.keeps F.keep) hcr rfl (hbind s vs S hl) hcell
    (fun x hx => hloc x.1 (by obtain ⟨a, b⟩ := x; exact (List.of_mem_zip hx).1)) (fun h₁ hns hk₁ => ?_) hco hgen hk
  let c' : Cx w K := c.callee (hideS σ s.heap) S.hidden (envX qual scope s.heap.objs.size f cdv cl) s.heap.objs.size rfl hk d hd
  have S' : Sim prog c' (names.zip args) σ { s with heap := h₁, toks := s.toks + (names.zip vs).length } := by
    refine ⟨⟨_, ⟨hns, fun b o e => hk₁ b o (of_hideS e), Nat.le_of_eq (hideS_size _ _)⟩, ?_⟩, fun a o e => ⟨?_, hideS_none (by rw [e]; simp), (S.obj a o e).2.2.mono (tk_of_ext hk₁) fun ob => hk₁ a ob⟩⟩
    · have key : ∀ (ns : List Str) (us : List Value) (xs : List V), ns.Nodup → VRs s.heap us xs → LR h₁ (ns.zip xs) (fun x => (ns.zip us).reverse.lookup x) := by
        intro ns
        induction ns with
        | nil => intro us xs _ _ x V e; simp [lget] at e
        | cons n ns ih =>
          intro us xs hn hr x V e
          cases hr with
          | nil => simp [lget] at e
          | @cons v y us ys ra rb =>
            rw [List.nodup_cons] at hn
            simp only [List.zip_cons_cons, lget] at e
            simp only [List.zip_cons_cons, List.reverse_cons, List.lookup_append]
            by_cases q : n = x
            · subst q
              rw [if_pos rfl] at e; cases e
              have : (ns.zip us).reverse.lookup n = none := by
                rw [List.lookup_eq_none_iff]
                intro p hp
                have := (List.of_mem_zip (List.mem_reverse.mp hp)).1
                simp
                intro z; rw [z] at hn; exact hn.1 this
              exact ⟨v, by rw [this]; simp, ra.mono (tk_of_ext hk₁)⟩
            · rw [if_neg q] at e
              obtain ⟨u, hu, ru⟩ := ih us ys hn.2 rb x V e
              exact ⟨u, by dsimp only at hu; rw [hu]; rfl, ru⟩
      exact key names vs args hnd rs
    · intro z
      obtain ⟨ob, hob, _⟩ := (S.obj a o e).2.2.nt
      have : a = s.heap.objs.size := z
      rw [this] at hob
      exact absurd (Heap.lt_size hob) (Nat.lt_irrefl _)
  refine wpAny_mono (EX.run (c := c') (h c' rfl ⟨rfl, hk, rfl, rfl⟩) S' (P := fun fl s' => ∃ V σ', VR s'.heap (match fl with | .ret v => v | _ => .none) V ∧ Sim prog c ρ σ' s' ∧ Go c.L σ s σ' s' ∧ Q V σ') fun fl s' Fl' ρ' σ' r Sb g q => ?_) (fun fl s' hq => ?_) fun _ _ e => e.elim
  · obtain ⟨Sc, gc⟩ := S.back (c' := c') (fun b o e n => hideS_some e n) Sb (by obtain ⟨h, t, e⟩ := g.st; exact ⟨h, t, e⟩)
    refine ⟨retV Fl', σ', ?_, Sc, gc, q⟩
    cases fl with
    | next => rw [FR_next r]; exact .none
    | brk => rw [FR_brk r]; exact .none
    | cont => rw [FR_cont r]; exact .none
    | ret v => obtain ⟨V, e, r'⟩ := FR_ret r; rw [e]; exact r'
  · exact hq

theorem cellS_none {cv : Str → Option V} {σ : St} : ∀ {cs : List (Str × Addr)} {b : Addr}, b ∉ cs.map (·.2) → cellS cv σ cs b = σ b
  | [], _, _ => rfl
  | (n, a) :: r, b, h => by
    simp only [List.map_cons, List.mem_cons, not_or] at h
    exact (upd_ne h.1).trans (cellS_none h.2)
theorem cellS_some {cv : Str → Option V} {σ : St} : ∀ {cs : List (Str × Addr)} {b : Addr} {o : AO}, cellS cv σ cs b = some o → (∃ n, (n, b) ∈ cs ∧ o = .cell (cv n)) ∨ σ b = some o
  | [], _, _, h => .inr h
  | (n, a) :: r, b, o, h => by
    unfold cellS upd at h
    split at h
    · rename_i e; cases h; subst e; exact .inl ⟨n, .head _, rfl⟩
    · rcases cellS_some h with ⟨n', hm, e⟩ | e
      · exact .inl ⟨n', .tail _ hm, e⟩
      · exact .inr e

theorem CF_fnC {names : List Str} {args : List V} {name qual : Str} {params : Arguments} {body : List Stmt} {scope : Scope} {dV kV doc pm cdv ct : Value} {an : Option Addr} {f : Addr} {d : Nat} (hd : d + 1 = c.d)
    (ho : ∀ s, Sim prog c ρ σ s → (∃ fo, s.heap.get? f = some fo ∧ fo.data = .func (fnX name qual params body scope [] dV kV doc pm an cdv ct)) ∧ s.heap.CodeRec cdv qual)
    (hbind : ∀ s vs, Sim prog c ρ σ s → vs.length = args.length → BindsTo s (fnX name qual params body scope [] dV kV doc pm an cdv ct) ⟨vs, []⟩ (names.zip vs))
    (hkind : (names.all fun y => scope.names.lookup y == some .local || scope.names.lookup y == some .cell) = true) (hnd : ((cellsFrom 0 scope.names []).map (·.1)).Nodup)
    (hco : scope.isCoroutine = false) (hgen : scope.isGenerator = false) (hk : scope.kind = .function)
    (h : ∀ c' : Cx w K, c'.d = d → EnvOk c' (envX qual scope c'.L f cdv (cellsFrom (c'.L + 1) scope.names [])) → (∀ a, c'.L ≤ a → σ a = none) →
      EX prog c' (execs body (envX qual scope c'.L f cdv (cellsFrom (c'.L + 1) scope.names []))) (locV (fun x => scope.names.lookup x) (names.zip args) []) (cellS (celV (fun x => scope.names.lookup x) (names.zip args) fun _ => none) σ (cellsFrom (c'.L + 1) scope.names []))
        (fun fl _ σ' => Q (retV fl) σ')) :
    CF prog c f args ρ σ Q := fun s vs S rs => by
  obtain ⟨⟨fo, hfo, hfd⟩, hcr⟩ := ho s S
  obtain ⟨m, F⟩ := S.fr
  have hl : vs.length = args.length := rs.length
  have hkind' : ∀ x ∈ names.zip vs, scope.names.lookup x.1 = some .local ∨ (scope.names.lookup x.1 = some .cell ∧ ((cellsFrom (s.heap.objs.size + 1) scope.names []).lookup x.1).isSome = true) := fun x hx => by
    have hm : x.1 ∈ names := by obtain ⟨a, b⟩ := x; exact (List.of_mem_zip hx).1
    have := List.all_eq_true.mp hkind x.1 hm
    rcases Bool.or_eq_true_iff.mp this with q | q
    · exact .inl (by simpa using q)
    · have q' : scope.names.lookup x.1 = some .cell := by simpa using q
      exact .inr ⟨q', cellsFrom_some _ _ _ (.inl q')⟩
  refine codeAny_call_function (fd := fnX name qual params body scope [] dV kV doc pm an cdv ct) (by have := c.dp; show c.A.depth < 1000; omega) hfo hfd hco hgen rfl hcr (hbind s vs S hl _ _ _ _ ?_)
  refine wpAny_newFunctionEnv_cells hk hkind' fun env' hen s₁ x => ?_
  subst hen
  refine ⟨(c.T.nolimit.keeps F.keep).keeps x.toInCall.keep, codeAny_func ?_⟩
  obtain ⟨h₁, tk, rfl, _⟩ := x.done
  have hk₁ := x.toInCall.keep
  let c' : Cx w K := c.callee (hideS σ s.heap) S.hidden (envX qual scope s.heap.objs.size f cdv (cellsFrom (s.heap.objs.size + 1) scope.names [])) s.heap.objs.size rfl hk d hd
  have above : ∀ a, s.heap.objs.size ≤ a → s.heap.get? a = none := fun a ha => Heap.get?_none_of_le ha
  have free : ∀ a, s.heap.objs.size ≤ a → σ a = none := fun a ha => by
    cases q : σ a with
    | none => rfl
    | some o =>
      obtain ⟨ob, hob, _⟩ := (S.obj a o q).2.2.nt
      rw [above a ha] at hob; cases hob
  have rs₁ : VRs h₁ vs args := rs.mono (tk_of_ext hk₁)
  have S' : Sim prog c' (locV (fun x => scope.names.lookup x) (names.zip args) []) (cellS (celV (fun x => scope.names.lookup x) (names.zip args) fun _ => none) σ (cellsFrom (s.heap.objs.size + 1) scope.names [])) { s with heap := h₁, toks := tk } := by
    refine ⟨⟨_, ⟨x.toInCall.ns, fun b o e => hk₁ b o (of_hideS e), Nat.le_of_eq (hideS_size _ _)⟩, LR_bind _ names vs args [] _ rs₁ fun x V e => by simp [lget] at e⟩, fun a o e => ?_⟩
    rcases cellS_some e with ⟨n, hm, rfl⟩ | e
    · have hab := x.above n a hm
      have hab' : s.heap.objs.size < a := hab
      refine ⟨Nat.ne_of_gt hab', ?_, ?_⟩
      · show (hideS σ s.heap).get? a = none
        cases q : (hideS σ s.heap).get? a with
        | none => rfl
        | some o => have := of_hideS q; rw [above a (Nat.le_of_lt hab')] at this; cases this
      · have hlk : (cellsFrom (s.heap.objs.size + 1) scope.names []).lookup n = some a := lookup_of_mem_nodup (cellsFrom_names scope.names 0 (s.heap.objs.size + 1) [] [] rfl ▸ hnd) hm
        obtain ⟨ob, hob, hdd⟩ := x.cell n a hlk
        exact ⟨ob, _, hob, hdd, CR_bind (h := h₁) (fun x => scope.names.lookup x) names vs args (fun _ => none) (fun _ => none) rs₁ (fun _ => trivial) n⟩
    · refine ⟨?_, hideS_none (by rw [e]; simp), (S.obj a o e).2.2.mono (tk_of_ext hk₁) fun ob => hk₁ a ob⟩
      intro z
      have : σ a = none := free a (Nat.le_of_eq (Eq.symm z))
      rw [e] at this; cases this
  refine wpAny_mono (EX.run (c := c') (h c' rfl ⟨rfl, hk, rfl, rfl⟩ free) S' (P := fun fl s' => ∃ V σ', VR s'.heap (match fl with | .ret v => v | _ => .none) V ∧ Sim prog c ρ σ' s' ∧ Go c.L σ s σ' s' ∧ Q V σ') fun fl s' Fl' ρ' σ' r Sb g q => ?_) (fun fl s' hq => ?_) fun _ _ e => e.elim
  · obtain ⟨Sc, gc⟩ := S.back (c' := c') (fun b o e n => hideS_some e n) Sb (by obtain ⟨h, t, e⟩ := g.st; exact ⟨h, t, e⟩)
    refine ⟨retV Fl', σ', ?_, Sc, gc, q⟩
    cases fl with
    | next => rw [FR_next r]; exact .none
    | brk => rw [FR_brk r]; exact .none
    | cont => rw [FR_cont r]; exact .none
    | ret v => obtain ⟨V, e, r'⟩ := FR_ret r; rw [e]; exact r'
  · exact hq
end
end RH
set_option Elab.async false
set_option maxRecDepth 10000
set_option linter.all false
namespace RH
open PySem PySem.W PySem.Calls PyProof.Rows

section
variable {prog : Program} {w : World} {K : Frag} {c : Cx w K} {ρ : Loc} {σ : St} {env : Env} {Q : V → St → Prop}

/-- all that stands beside the frame, but one -/
def allN (h₀ h : Heap) (L dx : Addr) : List (Addr × Obj) := (List.range h.objs.size).filterMap fun a =>
  if a = L ∨ a = dx ∨ (h₀.get? a).isSome then none else (h.get? a).map (a, ·)
theorem mem_allN {h₀ h : Heap} {L dx : Addr} {p : Addr × Obj} : p ∈ allN h₀ h L dx ↔ h.get? p.1 = some p.2 ∧ p.1 ≠ L ∧ p.1 ≠ dx ∧ h₀.get? p.1 = none := by
  unfold allN
  rw [List.mem_filterMap]
  constructor
  · rintro ⟨a, ha, e⟩
    split at e
    · cases e
    · rename_i hn
      simp only [not_or] at hn
      cases q : h.get? a with
      | none => rw [q] at e; cases e
      | some o =>
        rw [q] at e
        have e' : (a, o) = p := by simpa using e
        subst e'
        exact ⟨q, hn.1, hn.2.1, by simpa using hn.2.2⟩
  · rintro ⟨h1, h2, h3, h4⟩
    refine ⟨p.1, List.mem_range.mpr (Heap.lt_size h1), ?_⟩
    rw [if_neg (by simp [h2, h3, h4]), h1]
    rfl

theorem Sim.change2 {s : Shared} {a : Addr} {o : AO} (S : Sim prog c ρ σ s) (e : σ a = some o) {m : Str → Option Value} (R : LR s.heap ρ m) {h' : Heap} (F' : Fr c.h₀ c.L h' m)
    (k : ∀ b ob, b ≠ a → b ≠ c.L → s.heap.get? b = some ob → h'.get? b = some ob) (ao : AO) (tk : Nat) (r : TK s.heap h' → OR prog w h' a ao) :
    Sim prog c ρ (upd σ a ao) { s with heap := h', toks := tk } ∧ Go c.L σ s (upd σ a ao) { s with heap := h', toks := tk } := by
  obtain ⟨hL, h0, r0⟩ := S.obj _ _ e
  obtain ⟨ob, ho, hn⟩ := r0.nt
  obtain ⟨m', F⟩ := S.fr
  obtain ⟨oL, es, ep, hoL, hdL, _⟩ := F.ns
  have t : TK s.heap h' := fun b items ⟨o, eb, hc, n, hd⟩ => by
    have h1 : b ≠ a := fun q => by subst q; rw [ho] at eb; cases eb; exact hn ⟨hc, items, n, hd⟩
    have h2 : b ≠ c.L := fun q => by subst q; rw [hoL] at eb; cases eb; rw [hdL] at hd; cases hd
    exact ⟨o, k b o h1 h2 eb, hc, n, hd⟩
  refine ⟨⟨⟨m, F', fun x V e => let ⟨v, hv, rv⟩ := R x V e; ⟨v, hv, rv.mono t⟩⟩, fun b o' q => ?_⟩, ⟨⟨_, _, rfl⟩, fun b ob hb hbL q => k b ob (fun z => by subst z; rw [e] at hb; cases hb) hbL q, t, fun b hb hb' => ?_⟩⟩
  · unfold upd at q
    split at q
    · rename_i z; cases q; subst z; exact ⟨hL, h0, r t⟩
    · rename_i z
      obtain ⟨h1, h2, h3⟩ := S.obj b o' q
      exact ⟨h1, h2, h3.mono t fun ob e => k b ob z h1 e⟩
  · unfold upd at hb'
    split at hb'
    · rename_i z; subst z; rw [e] at hb; cases hb
    · exact absurd hb hb'

/-! calls by name -/
/-- what may be called by its address -/
def Callable (K : Frag) (σ : St) (f : Addr) : Prop := keepIn K (.ref f) = true ∨ ∃ oc od fd sl, σ f = some (.raw ⟨oc, od, .func fd, sl⟩)
theorem Callable.looks {f : Addr} {s : Shared} (h : Callable K σ f) (S : Sim prog c ρ σ s) : ∃ k, (k = Keeper.frame ∨ k = Keeper.machine ∨ k = Keeper.boundFrame) ∧ Looks (model prog w) s.heap (keeperOf (.ref f)) k := by
  rcases h with h | ⟨oc, od, fd, sl, h⟩
  · exact keeps_K h s.heap S.inK
  · have ho := (S.obj _ _ h).2.2.1
    exact ⟨.frame, .inl rfl, (Looks.ld (part := none) ho).andThen .now⟩

theorem callWith_args {first : List V} {firstV : List Value} {f : Addr} {e : PySem.Expr} {rest : List PySem.Expr} {pos : Pos} {s : Shared} {P : Value → Shared → Prop} (S : Sim prog c ρ σ s) (rf : VRs s.heap firstV first)
    (he : starEach (e :: rest) env = (false, eval e env) :: starEach rest env) (hplain : (backTo pos (starEach rest env)).any (·.1) = false)
    (h : EVs prog c (spliced (backTo pos (starEach (e :: rest) env))) ρ σ fun xs σ₁ => Callable K σ₁ f ∧ CF prog c f (first ++ xs) ρ σ₁ Q)
    (k : ∀ v s' V σ', VR s'.heap v V → Sim prog c ρ σ' s' → Go c.L σ s σ' s' → Q V σ' → P v s') : wpAny (model prog w) c.A (callWith pos (.ref f) firstV (backTo pos (starEach (e :: rest) env)) []) P (fun _ _ => False) s := by
  have g := h.run S (P := fun vs s₁ => (∃ k, (k = Keeper.frame ∨ k = Keeper.machine ∨ k = Keeper.boundFrame) ∧ Looks (model prog w) s₁.heap (keeperOf (.ref f)) k) ∧ wpAny (model prog w) c.A (call (.ref f) (firstV ++ vs)) P (fun _ _ => False) s₁)
    fun vs s₁ xs σ₁ rs S₁ g₁ ⟨hc, hop⟩ => ⟨hc.looks S₁, OPn.run (f := fun vs => call (.ref f) vs) (CF.op hop) S₁ ((rf.mono g₁.tk).append rs) fun v s₂ V σ₂ r S₂ g₂ q => k v s₂ V σ₂ r S₂ (g₁.trans g₂) q⟩
  rw [he] at g ⊢
  exact callWith_of (P := fun h => ∃ k, (k = Keeper.frame ∨ k = Keeper.machine ∨ k = Keeper.boundFrame) ∧ Looks (model prog w) h (keeperOf (.ref f)) k) (by show ((false || (backTo pos (starEach rest env)).any (·.1)) || false) = false; rw [hplain]; rfl) (fun h x => x) (evalArgs_plain g)
theorem callWith_none {first : List V} {firstV : List Value} {f : Addr} {pos : Pos} {s : Shared} {P : Value → Shared → Prop} (S : Sim prog c ρ σ s) (rf : VRs s.heap firstV first)
    (h : Callable K σ f ∧ CF prog c f first ρ σ Q)
    (k : ∀ v s' V σ', VR s'.heap v V → Sim prog c ρ σ' s' → Go c.L σ s σ' s' → Q V σ' → P v s') : wpAny (model prog w) c.A (callWith pos (.ref f) firstV (backTo pos (starEach [] env)) []) P (fun _ _ => False) s := by
  have g := OPn.run (f := fun vs => call (.ref f) vs) (CF.op h.2) S rf k
  exact callWith_of (P := fun h => ∃ k, (k = Keeper.frame ∨ k = Keeper.machine ∨ k = Keeper.boundFrame) ∧ Looks (model prog w) h (keeperOf (.ref f)) k) rfl (fun h x => x) (evalArgs_nil3 ⟨h.1.looks S, by simpa using g⟩)

/-- a call of what an expression tells -/
theorem EV_call {fe e : PySem.Expr} {rest : List PySem.Expr} {pos : Pos} (hc : eval (.Call fe (e :: rest) [] pos) env = (do callWith pos (← eval fe env) [] (backTo pos (starEach (e :: rest) env)) (backToKw pos (keywordEach [] env))))
    (he : starEach (e :: rest) env = (false, eval e env) :: starEach rest env) (hplain : (backTo pos (starEach rest env)).any (·.1) = false)
    (h : EV prog c (eval fe env) ρ σ fun F σ₁ => ∃ f, F = .loc f ∧ EVs prog c (spliced (backTo pos (starEach (e :: rest) env))) ρ σ₁ fun xs σ₂ => Callable K σ₂ f ∧ CF prog c f xs ρ σ₂ Q) :
    EV prog c (eval (.Call fe (e :: rest) [] pos) env) ρ σ Q := fun s S =>
  Call_ (h.run S fun fv s₁ F σ₁ rf S₁ g₁ ⟨f, ef, h₁⟩ => by
    subst ef; cases rf
    exact callWith_args (first := []) S₁ .nil he hplain h₁ fun v s₂ V σ₂ r S₂ g₂ q => ⟨V, σ₂, r, S₂, g₁.trans g₂, q⟩) hc
theorem EV_call0 {fe : PySem.Expr} {pos : Pos} (hc : eval (.Call fe [] [] pos) env = (do callWith pos (← eval fe env) [] (backTo pos (starEach [] env)) (backToKw pos (keywordEach [] env))))
    (h : EV prog c (eval fe env) ρ σ fun F σ₁ => ∃ f, F = .loc f ∧ Callable K σ₁ f ∧ CF prog c f [] ρ σ₁ Q) :
    EV prog c (eval (.Call fe [] [] pos) env) ρ σ Q := fun s S =>
  Call_ (h.run S fun fv s₁ F σ₁ rf S₁ g₁ ⟨f, ef, h₁⟩ => by
    subst ef; cases rf
    exact callWith_none (first := []) S₁ .nil h₁ fun v s₂ V σ₂ r S₂ g₂ q => ⟨V, σ₂, r, S₂, g₁.trans g₂, q⟩) hc

/-! instances -/
structure ClsOk (K : Frag) (C : Addr) : Prop where
  get : plainGet K C "" = true
  dict : hasDictIn K C = true
  set : findIn K (.ref C) "__setattr__" = some (some (.builtin "object.__setattr__"))
  over : plainOver K C = true
structure AttrOk (K : Frag) (C : Addr) (name : Str) : Prop where
  find : findIn K (.ref C) name = some none
  taker : takerIn K C name = some none

def fget : List (Str × V) → Str → Option V
  | [], _ => none
  | (y, u) :: r, x => if y = x then some u else fget r x
def fset : List (Str × V) → Str → V → List (Str × V)
  | [], x, v => [(x, v)]
  | (y, u) :: r, x, v => if y = x then (y, v) :: r else (y, u) :: fset r x v

theorem NR.getL {h : Heap} {es : List DictEntry} {fs : List (Str × V)} (r : NR h es fs) (name : Str) : (∀ V, fget fs name = some V → ∃ v, getL name es = some (some v) ∧ VR h v V) ∧ (getL name es).isSome = true ∧ (fget fs name = none → getL name es = some none) := by
  have hany : es.any (·.refKey) = false := by
    clear name
    induction r with
    | nil => rfl
    | cons a _ ih => simpa [List.any_cons, DictEntry.refKey] using ih
  have key : (∀ V, fget fs name = some V → ∃ e, es.find? (·.key.isStr name) = some e ∧ VR h e.val V) ∧ (fget fs name = none → es.find? (·.key.isStr name) = none) := by
    clear hany
    induction r with
    | nil => exact ⟨fun V e => (by cases e), fun _ => rfl⟩
    | @cons hs x t v u es fs a _ ih =>
      simp only [fget, List.find?_cons, Value.isStr]
      by_cases q : x = name
      · subst q; simp; exact a
      · have : (x == name) = false := by simpa using q
        simp only [this, if_neg q]; exact ih
  refine ⟨fun V e => ?_, ?_, fun e => ?_⟩
  · obtain ⟨en, he, rv⟩ := key.1 V e
    exact ⟨en.val, by unfold PySem.W.getL; rw [he], rv⟩
  · unfold PySem.W.getL
    split
    · rfl
    · rw [hany]; rfl
  · unfold PySem.W.getL
    rw [key.2 e, hany]; rfl
theorem NR.putL {h : Heap} {es : List DictEntry} {fs : List (Str × V)} (r : NR h es fs) (name : Str) (hs : Int) (t : Tok) {v : Value} {u : V} (rv : VR h v u) : NR h (putL name hs (.str name t) v es) (fset fs name u) := by
  induction r with
  | nil => exact .cons rv .nil
  | @cons hs' x t' v' u' es fs a b ih =>
    simp only [PySem.W.putL, fset, Value.isStr]
    by_cases q : x = name
    · subst q; simp; exact .cons rv b
    · have : (x == name) = false := by simpa using q
      simp only [this, if_neg q, Bool.false_eq_true, if_false]; exact .cons a ih
theorem NR.length {h : Heap} {es : List DictEntry} {fs : List (Str × V)} (r : NR h es fs) : es.length = fs.length := by
  induction r with
  | nil => rfl
  | cons _ _ ih => simp [ih]

theorem EV_attr {o : PySem.Expr} {name : Str} {pos : Pos} (hev : eval (.Attribute o name pos) env = (do let ov ← eval o env; standAt pos.atName; let r ← holding [ov] (getAttr ov name true); letTemporaryGo o ov r; pure r))
    (h : EV prog c (eval o env) ρ σ fun X σ₁ => ∃ a C dx fs V, X = .loc a ∧ σ₁ a = some (.inst C dx) ∧ σ₁ dx = some (.ns fs) ∧ ClsOk K C ∧ AttrOk K C name ∧ fget fs name = some V ∧ Q V σ₁) :
    EV prog c (eval (.Attribute o name pos) env) ρ σ Q := fun s S =>
  Attribute_any_ (h.run S fun ov s₁ X σ₁ r S₁ g₁ ⟨a, C, dx, fs, V, e, h1, h2, hC, hA, hf, q⟩ => by
    subst e; cases r
    obtain ⟨m, F⟩ := S₁.fr
    obtain ⟨es, n, hes, hn⟩ := (S₁.obj _ _ h2).2.2
    obtain ⟨v, hv, rv⟩ := (hn.getL name).1 V hf
    have hd : handedIn v = true := by cases rv <;> rfl
    refine get_own F c.X (ox := instObj C dx) (es := es) (n := n) ⟨(S₁.obj _ _ h1).2.2, rfl, rfl, hes⟩ (by have := hC.get; unfold plainGet at this ⊢; exact this) hC.dict hA.find rfl hv hd ⟨V, σ₁, rv, S₁.toks _, g₁.trans (Go.toks _ _ _), q⟩) hev

theorem setAttr_inst {a C dx : Addr} {fs : List (Str × V)} {name : Str} {v : Value} {V : V} {s : Shared} {P : Unit → Shared → Prop} (S : Sim prog c ρ σ s) (rv : VR s.heap v V) (h1 : σ a = some (.inst C dx)) (h2 : σ dx = some (.ns fs)) (hC : ClsOk K C) (hA : AttrOk K C name) (hl : fs.length ≤ 900)
    (k : ∀ s', Sim prog c ρ (upd σ dx (.ns (fset fs name V))) s' → Go c.L σ s (upd σ dx (.ns (fset fs name V))) s' → P () s') : wpAny (model prog w) c.A (setAttr (.ref a) name v) P (fun _ _ => False) s := by
  obtain ⟨m, F, R⟩ := S.loc
  obtain ⟨hdL, hd0, es, n, hes, hn⟩ := S.obj _ _ h2
  have N : News c.h₀ c.L s.heap ((dx, dictOf es n) :: allN c.h₀ s.heap c.L dx) := fun p hp => by
    rcases List.mem_cons.mp hp with rfl | hp
    · exact ⟨hes, hdL, hd0⟩
    · obtain ⟨x1, x2, x3, x4⟩ := mem_allN.mp hp; exact ⟨x1, x2, x4⟩
  have lz : ∀ (l : List DictEntry) hs ky u, (PySem.W.putL name hs ky u l).length ≤ l.length + 1 := by
    intro l hs ky u
    induction l with
    | nil => simp [PySem.W.putL]
    | cons e r ih =>
      simp only [PySem.W.putL]
      split
      · simp
      · simp; exact ih
  refine set_dict F c.X N (ox := instObj C dx) (dx := dx) (es := es) (n := n) ⟨(S.obj _ _ h1).2.2, rfl, rfl, hes⟩ rfl hC.set hC.over hA.taker hC.dict (hn.getL name).2.1 rfl (.head fun p hp => (mem_allN.mp hp).2.2.1)
    (by have := lz es (PyData.keyHash w.params name) (.str name (s.toks + 1)) v; have := hn.length; omega) fun h' F' N' => ?_
  obtain ⟨S', G'⟩ := S.change2 h2 R F' (fun b ob hb hbL e => by
      cases q : c.h₀.get? b with
      | some o' => have := F.keep b o' q; rw [e] at this; cases this; exact F'.keep b ob q
      | none => exact (N' (b, ob) (.tail _ (mem_allN.mpr ⟨e, hbL, hb, q⟩))).1) (.ns (fset fs name V)) (s.toks + 2) fun t => ⟨_, _, (N' _ (.head _)).1, (hn.mono t).putL name _ _ (rv.mono t)⟩
  exact k _ S' G'
theorem EX_Attr {o value : PySem.Expr} {name : Str} {pos' pos : Pos} {Q : Fl → Loc → St → Prop} (hs : swapsWith value (some (.Attribute o name pos')) pos.line env = pure false)
    (h : EV prog c (eval value env) ρ σ fun V σ₁ => EV prog c (eval o env) ρ σ₁ fun X σ₂ => ∃ a C dx fs, X = .loc a ∧ σ₂ a = some (.inst C dx) ∧ σ₂ dx = some (.ns fs) ∧ ClsOk K C ∧ AttrOk K C name ∧ fs.length ≤ 900 ∧ Q .next ρ (upd σ₂ dx (.ns (fset fs name V)))) :
    EX prog c (exec (.Assign [.Attribute o name pos'] value pos) env) ρ σ Q := fun s S =>
  plainObj_wpAny_Assign_Attribute (h.run S fun v s₁ V σ₁ rv S₁ g₁ h₁ => h₁.run S₁ fun ov s₂ X σ₂ r S₂ g₂ ⟨a, C, dx, fs, e, h1, h2, hC, hA, hl, q⟩ => by
    subst e; cases r
    exact setAttr_inst S₂ (rv.mono g₂.tk) h1 h2 hC hA hl fun s₃ S₃ g₃ => ⟨.next, ρ, _, trivial, S₃, (g₁.trans g₂).trans g₃, q⟩) hs

/-- a method of an own class -/
structure MethOk (K : Frag) (C : Addr) (name : Str) (f : Addr) : Prop where
  find : findIn K (.ref C) name = some (some (.ref f))
  fn : isFn K (.ref f) = true
theorem EV_meth {o : PySem.Expr} {name : Str} {apos pos : Pos} {e : PySem.Expr} {rest : List PySem.Expr} {pl : Sem Bool}
    (hev : eval (.Call (.Attribute o name apos) (e :: rest) [] pos) env = (do let ov ← eval o env; standAt apos.atName; let (f, first) ← holding [ov] (getMethod ov name pl); callWith pos f first (backTo pos (starEach (e :: rest) env)) []))
    (he : starEach (e :: rest) env = (false, eval e env) :: starEach rest env) (hplain : (backTo pos (starEach rest env)).any (·.1) = false)
    (h : EV prog c (eval o env) ρ σ fun X σ₁ => ∃ a C dx fs f, X = .loc a ∧ σ₁ a = some (.inst C dx) ∧ σ₁ dx = some (.ns fs) ∧ ClsOk K C ∧ MethOk K C name f ∧ fget fs name = none ∧
      EVs prog c (spliced (backTo pos (starEach (e :: rest) env))) ρ σ₁ fun xs σ₂ => Callable K σ₂ f ∧ CF prog c f (.loc a :: xs) ρ σ₂ Q) :
    EV prog c (eval (.Call (.Attribute o name apos) (e :: rest) [] pos) env) ρ σ Q := fun s S => by
  rw [hev]
  refine wpAny_bind (h.run S fun ov s₁ X σ₁ r S₁ g₁ ⟨a, C, dx, fs, f, ex, h1, h2, hC, hM, hf, h₁⟩ => ?_)
  subst ex; cases r
  obtain ⟨m, F⟩ := S₁.fr
  obtain ⟨es, n, hes, hn⟩ := (S₁.obj _ _ h2).2.2
  refine wpAny_bind (wpAny_standAt (wpAny_bind (wpAny_holding (method_inst F c.X (ox := instObj C dx) (es := es) (n := n) ⟨(S₁.obj _ _ h1).2.2, rfl, rfl, hes⟩ (by have := hC.get; unfold plainGet at this ⊢; exact this) hM.find hM.fn ((hn.getL name).2.2 hf) ?_))))
  exact callWith_args (first := [.loc a]) S₁ (.cons (.loc a) .nil) he hplain h₁ fun v s₂ V σ₂ r S₂ g₂ q => ⟨V, σ₂, r, S₂, g₁.trans g₂, q⟩
theorem EV_meth0 {o : PySem.Expr} {name : Str} {apos pos : Pos} {pl : Sem Bool}
    (hev : eval (.Call (.Attribute o name apos) [] [] pos) env = (do let ov ← eval o env; standAt apos.atName; let (f, first) ← holding [ov] (getMethod ov name pl); callWith pos f first (backTo pos (starEach [] env)) []))
    (h : EV prog c (eval o env) ρ σ fun X σ₁ => ∃ a C dx fs f, X = .loc a ∧ σ₁ a = some (.inst C dx) ∧ σ₁ dx = some (.ns fs) ∧ ClsOk K C ∧ MethOk K C name f ∧ fget fs name = none ∧
      Callable K σ₁ f ∧ CF prog c f [.loc a] ρ σ₁ Q) :
    EV prog c (eval (.Call (.Attribute o name apos) [] [] pos) env) ρ σ Q := fun s S => by
  rw [hev]
  refine wpAny_bind (h.run S fun ov s₁ X σ₁ r S₁ g₁ ⟨a, C, dx, fs, f, ex, h1, h2, hC, hM, hf, h₁⟩ => ?_)
  subst ex; cases r
  obtain ⟨m, F⟩ := S₁.fr
  obtain ⟨es, n, hes, hn⟩ := (S₁.obj _ _ h2).2.2
  refine wpAny_bind (wpAny_standAt (wpAny_bind (wpAny_holding (method_inst F c.X (ox := instObj C dx) (es := es) (n := n) ⟨(S₁.obj _ _ h1).2.2, rfl, rfl, hes⟩ (by have := hC.get; unfold plainGet at this ⊢; exact this) hM.find hM.fn ((hn.getL name).2.2 hf) ?_))))
  exact callWith_none (first := [.loc a]) S₁ (.cons (.loc a) .nil) h₁ fun v s₂ V σ₂ r S₂ g₂ q => ⟨V, σ₂, r, S₂, g₁.trans g₂, q⟩
end
end RH
set_option Elab.async false
set_option maxRecDepth 10000
set_option linter.all false
namespace RH
open PySem PySem.W PySem.Calls PyProof.Rows

section
variable {prog : Program} {w : World} {K : Frag} {c : Cx w K} {ρ : Loc} {σ : St} {env : Env} {Q : V → St → Prop}

/-! classes called -/
def Cx.makes (c : Cx w K) (C : Addr) (vs : List Value) (d : Nat) (hd : d + 1 = c.d) : Cx w K where
  A := c.A.under (.builtin "type.__call__" ⟨.ref C :: vs, []⟩)
  L := c.L
  h₀ := c.h₀
  d := d
  p := c.p
  loose := c.loose
  mean := c.mean
  mg := c.mg
  mb := c.mb
  base := c.base
  frs := c.frs
  hA := c.hA
  BB := fun g m F => let B := c.BB g m F; ⟨B.stack, B.stays, B.frames⟩
  X := c.X
  T := c.T
  hh := c.hh
  dp := by have := c.dp; show c.A.depth + 1 + d < 1000; omega
  un := by
    have := c.un
    have : (Code.builtin "type.__call__" ⟨.ref C :: vs, []⟩).cUnits ≤ 4 := by
      have e : (Code.builtin "type.__call__" ⟨.ref C :: vs, []⟩).cUnits = 1 := by rfl
      rw [e]; decide
    show c.A.units + (Code.builtin "type.__call__" ⟨.ref C :: vs, []⟩).cUnits + 20 * d < 9900
    omega
theorem Cx.makes_sim {C : Addr} {vs : List Value} {d : Nat} {hd : d + 1 = c.d} {s : Shared} : Sim prog (c.makes C vs d hd) ρ σ s ↔ Sim prog c ρ σ s := ⟨fun S => ⟨S.loc, S.obj⟩, fun S => ⟨S.loc, S.obj⟩⟩

theorem CF_cls {C fI : Addr} {args : List V} {d : Nat} (hd : d + 1 = c.d) (hm : makesIn K C = true) (hi : findIn K (.ref C) "__init__" = some (some (.ref fI))) (hf : isFn K (.ref fI) = true)
    (h : ∀ (c' : Cx w K) (x dx : Addr), c'.d = d → σ x = none → σ dx = none → x ≠ dx →
      CF prog c' fI (.loc x :: args) ρ (upd (upd σ dx (.ns [])) x (.inst C dx)) (fun V σ' => V = .none ∧ Q (.loc x) σ')) :
    CF prog c C args ρ σ Q := fun s vs S rs => by
  obtain ⟨hh, g, dr, t, os⟩ := s
  have X := S.inK
  have S1 := S.pushO emptyDict (.ns []) t ⟨[], 0, Heap.get?_push_size _ rfl, .nil⟩
  have G1 := Go.pushO S emptyDict (.ns []) t
  have hsz : (hh.push emptyDict).objs.size = hh.objs.size + 1 := Heap.size_push _ _
  have S2 := S1.pushO (instObj C hh.objs.size) (.inst C hh.objs.size) t (Heap.get?_push_size _ rfl)
  have G2 := Go.pushO S1 (instObj C hh.objs.size) (.inst C hh.objs.size) t
  have f0 := S.freshAt
  have f1 := S1.freshAt
  dsimp only at S1 G1 S2 G2 f0 f1
  rw [hsz] at S2 G2 f1
  have f1' : σ (hh.objs.size + 1) = none := by rw [upd_ne (Nat.succ_ne_self _)] at f1; exact f1
  refine make_core (makes_of X hm) (looks_findIn X hi) (fun self => bind_fn X self (beq_iff_eq.mp hf)) (.inl rfl) ?_
  have S2' : Sim prog (c.makes C vs d hd) ρ (upd (upd σ hh.objs.size (.ns [])) (hh.objs.size + 1) (.inst C hh.objs.size)) ⟨(hh.push emptyDict).push (instObj C hh.objs.size), g, dr, t, os⟩ := Cx.makes_sim.mpr S2
  have key := h (c.makes C vs d hd) (hh.objs.size + 1) hh.objs.size rfl f1' f0 (Nat.succ_ne_self _) _ (.ref (hh.objs.size + 1) :: vs) S2' (.cons (.loc _) (rs.mono ((TK.push _ _).trans (TK.push _ _))))
  refine codeAny_mono key fun r s' hr => ?_
  cases r with
  | error e => exact hr.elim
  | ok fl => cases fl with
    | ret v =>
      obtain ⟨V, σ', rv, S', G', rfl, q⟩ := hr
      cases rv
      exact ⟨rfl, _, σ', .loc _, Cx.makes_sim.mp S', (G1.trans G2).trans G', q⟩
    | next => exact hr
    | brk => exact hr
    | cont => exact hr

/-! comprehensions -/
def CB (prog : Program) (c : Cx w K) (x : Str) (elt : PySem.Expr) (env : Env) (ok : St → Prop) (D : Addr) : List V → Loc → St → (St → Prop) → Prop
  | [], ρ, σ, Q => Q σ
  | v :: vs, ρ, σ, Q => EV prog c (eval elt env) (lset ρ x v) σ fun y σ' => ∃ ys, σ' D = some (.list ys) ∧ ys.length ≤ 1000000 ∧ ok (upd σ' D (.list (ys ++ [y]))) ∧ CB prog c x elt env ok D vs (lset ρ x v) (upd σ' D (.list (ys ++ [y]))) Q

theorem append_op {a : Addr} {ys : List V} {y : V} {v : Value} {s : Shared} {P : Value → Shared → Prop} {E : Value → Shared → Prop} (S : Sim prog c ρ σ s) (ha : σ a = some (.list ys)) (hz : ys.length ≤ 1000000) (r : VR s.heap v y)
    (k : ∀ s', Sim prog c ρ (upd σ a (.list (ys ++ [y]))) s' → Go c.L σ s (upd σ a (.list (ys ++ [y]))) s' → P .none s') : wpAny (model prog w) c.A (call (.builtin "list.append") [.ref a, v]) P E s := by
  obtain ⟨_, _, items, hl, hv⟩ := S.obj _ _ ha
  have hs : items.size = ys.length := by rw [← hv.length, Array.length_toList]
  refine wpAny_list_append_plain hl (fun h' hl' hs' => ?_) (by rw [hs]; exact Nat.le_trans hz (by decide))
  obtain ⟨n, hn⟩ := hl
  have tk : TK s.heap h' := tk_of_same hs' hn fun ⟨e, _⟩ => by simp at e
  exact k _ (S.change ha hs' _ s.toks ⟨_, hl', by rw [Array.toList_push]; exact (hv.mono tk).snoc (r.mono tk)⟩) (Go.change S ha hs' _ _)

theorem comp_loop {I D : Addr} {xs : List V} {fact : Nat → St → Heap → Prop} {ok : St → Prop} {x : Str} {px : Pos} {elt iter : PySem.Expr} {scope : Scope} {pos : Pos} {σ₀ : St} {s₀ : Shared} {Q : St → Prop} (W : ITR prog w c.A I xs fact ok) (he : EnvOk c env) (hx : env.kindOf x = some .local)
    (hI0 : s₀.heap.get? I = none) (hIL : I ≠ c.L) (hIh : c.h₀.get? I = none) :
    ∀ (vs : List V) (i : Nat) (ρ : Loc) (σ : St) (s : Shared), xs.drop i = vs → i ≤ xs.length → Sim prog c ρ σ s → Go c.L σ₀ s₀ σ s → σ I = none → fact i σ s.heap → CB prog c x elt env ok D vs ρ σ Q →
      codeAny (model prog w) c.A (.compLoop (.ListComp elt [⟨.Name x px, iter, [], 0⟩] scope pos) 0 (.ref I) (.ref D) env) (fun r s' => match r with
        | .ok _ => ∃ ρ' σ', Sim prog c ρ' σ' s' ∧ Go c.L σ₀ s₀ σ' s' ∧ Q σ'
        | .error _ => False) s := by
  intro vs
  induction vs with
  | nil =>
    intro i ρ σ s hd hle S g hσ hf h
    refine codeAny_of_tree ?_
    show wpAny _ c.A ((compTurn (.ListComp elt [⟨.Name x px, iter, [], 0⟩] scope pos) 0 (.ref I) (.ref D) env).onRaise (fun x => do noteFrame x env; theTreesLotGoes x)) _ _ s
    refine wpAny_onRaise (wpAny_mono (Q := _) (E := fun _ _ => False) ?_ (fun _ _ x => x) fun _ _ x => x.elim)
    rw [compTurn_list1]
    have hi : i ≥ xs.length := by simpa using hd
    have hq : i = xs.length := Nat.le_antisymm hle hi
    have hf' : fact xs.length σ s.heap := hq ▸ hf
    obtain ⟨ob, ho, hn⟩ := W.there _ _ _ hf
    refine wpAny_bind (wpAny_standAt (wpAny_bind (W.done σ s _ _ hf' (fun a o e => (S.obj a o e).2.2) fun h' tk hx' => ?_)))
    exact wpAny_pure ⟨ρ, σ, S.but hσ hIL hIh ho hn hx' tk, g.but hI0 ho hn hx' tk, h⟩
  | cons v vs ih =>
    intro i ρ σ s hd hle S g hσ hf h
    refine codeAny_of_tree ?_
    show wpAny _ c.A ((compTurn (.ListComp elt [⟨.Name x px, iter, [], 0⟩] scope pos) 0 (.ref I) (.ref D) env).onRaise (fun x => do noteFrame x env; theTreesLotGoes x)) _ _ s
    refine wpAny_onRaise (wpAny_mono (Q := _) (E := fun _ _ => False) ?_ (fun _ _ x => x) fun _ _ x => x.elim)
    rw [compTurn_list1]
    have hv : xs[i]? = some v := by
      have := congrArg (·[0]?) hd
      simpa using this
    have hd' : xs.drop (i + 1) = vs := by
      have := congrArg List.tail hd
      simpa using this
    obtain ⟨ob, ho, hn⟩ := W.there _ _ _ hf
    refine wpAny_bind (wpAny_standAt (wpAny_bind (W.item i v σ s _ _ hv hf (fun a o e => (S.obj a o e).2.2) fun u h' tk ru hf₁ hx' => ?_)))
    have S₁ := S.but hσ hIL hIh ho hn hx' tk
    have g₁ := g.but hI0 ho hn hx' tk
    refine wpAny_bind (wpAny_of_eq (a := ()) (by rfl) ?_)
    refine wpAny_bind (wpAny_assign_Name (store_local he hx S₁ ru fun s₂ S₂ g₂ => ?_))
    obtain ⟨ob₁, ho₁, hn₁⟩ := W.there _ _ _ hf₁
    refine wpAny_bind (wpAny_bind (EV.run h S₂ fun y s₃ Y σ₃ r S₃ g₃ ⟨ys, hD, hz, hok, hcb⟩ => wpAny_bind (append_op S₃ hD hz r fun s₄ S₄ g₄ => ?_)))
    have g' := ((g₁.trans g₂).trans g₃).trans g₄
    have ho₂ := g₂.keep I ob₁ hσ hIL ho₁
    have ho₃ := g₃.keep I ob₁ hσ hIL ho₂
    have hσ₃ : σ₃ I = none := by
      cases q : σ₃ I with
      | none => rfl
      | some ao => exact absurd (g₃.new I hσ (by rw [q]; simp)).2 (by rw [ho₂]; simp)
    have ho₄ := g₄.keep I ob₁ hσ₃ hIL ho₃
    have hσ₄ : upd σ₃ D (.list (ys ++ [Y])) I = none := by
      rw [upd_ne (fun e => by rw [e, hD] at hσ₃; cases hσ₃)]; exact hσ₃
    exact wpAny_pure (wpAny_pure ⟨rfl, ih (i + 1) _ _ s₄ hd' (Nat.succ_le_of_lt (List.getElem?_eq_some_iff.mp hv).1) S₄ g' hσ₄
      (W.frame _ _ _ _ _ hf₁ hok (fun o e => by rw [ho₁] at e; cases e; exact ho₄) ((g₂.tk.trans g₃.tk).trans g₄.tk)) hcb⟩)

theorem Below.moreH {A : Around} {base g h : Heap} {l : List Env} (B : Below A base l g) (k : ∀ b o, g.get? b = some o → h.get? b = some o) : Below A base l h :=
  ⟨B.stack, fun b o e => k b o (B.stays b o e), B.frames.of_keeps fun b o e _ => ⟨o, k b o e, rfl⟩⟩

/-- the comprehension's context -/
def Cx.comp (c : Cx w K) (h₀ : Heap) (hF : ∃ m, Fr c.h₀ c.L h₀ m) (C : Addr) : Cx w K where
  A := c.A
  L := C
  h₀ := h₀
  d := c.d
  p := c.p
  loose := c.loose
  mean := c.mean
  mg := c.mg
  mb := c.mb
  base := c.base
  frs := c.frs
  hA := c.hA
  BB := fun g m F => by obtain ⟨m', F'⟩ := hF; exact RH.Below.moreH (c.BB h₀ m' F') F.keep
  X := by obtain ⟨m, F⟩ := hF; exact c.X.keeps F.keep
  T := by obtain ⟨m, F⟩ := hF; exact c.T.keeps F.keep
  hh := c.hh
  dp := c.dp
  un := c.un

theorem comp_core {x : Str} {px : Pos} {elt iter : PySem.Expr} {scope : Scope} {cl : List (Str × Addr)} {pos : Pos} {xv : Value} {X : V} {xs : List V} {ok : St → Prop} {s₁ : Shared} {Q : V → St → Prop}
    (he : EnvOk c env) (hcell : ∀ y ∈ scope.names, y.2 ≠ .cell) (hkind : scope.kind = .function) (hx : scope.names.lookup x = some .local)
    (S₁ : Sim prog c ρ σ s₁) (r : VR s₁.heap xv X) (hi : IsIt σ X xs ok)
    (h : ∀ (c' : Cx w K) (D : Addr), c'.d = c.d → EnvOk c' (compEnvC scope cl c'.L env) → σ D = none → (∀ o, o = AO.list [] → ok (upd σ D o)) ∧ CB prog c' x elt (compEnvC scope cl c'.L env) ok D xs [] (upd σ D (.list [])) (fun σ' => Q (.loc D) σ'))
    (P : Value → Addr → Result → Shared → Prop)
    (k : ∀ D C s' m σ', s'.heap.Ns C m → Sim prog c ρ σ' s' → Go c.L σ s₁ σ' s' → C ≠ c.L → c.h₀.get? C = none → σ' C = none → s₁.heap.get? C = none → Q (.loc D) σ' → ∀ fl, P (.ref D) C (.ok fl) s') :
    wpAny (model prog w) c.A (pyIter xv) (fun it s₂ => wpAny (model prog w) c.A (newList []) (fun acc s₃ => wpAny (model prog w) c.A (newFunctionEnv scope env.globals cl [] env.qual none .none (some env)) (fun cenv s₄ =>
      codeAny (model prog w) c.A (.compStart (.ListComp elt [⟨.Name x px, iter, [], 0⟩] scope pos) 0 it acc { cenv with scope := relabel scope env }) (P acc cenv.locals) s₄) (fun _ _ => False) s₃) (fun _ _ => False) s₂) (fun _ _ => False) s₁ := by
  refine pyIter_is hi S₁ r fun o fact hfr W hf => ?_
  have hIL := S₁.sizeNe
  have hI0 := S₁.size₀
  have hσI := S₁.freshAt
  have S₂ := S₁.pushT o s₁.toks
  refine wpAny_newObj_type (wpAny_newFunctionEnv hcell (by intro y hy; simp at hy) (fun h₁ hns₁ hsb₁ => ?_) hkind)
  dsimp only at hns₁ hsb₁ ⊢
  generalize hI : s₁.heap.objs.size = I at *
  generalize hH1 : s₁.heap.push o = H1 at *
  have hD1 : H1.objs.size = I + 1 := by rw [← hH1, Heap.size_push, hI]
  generalize hH2 : H1.push { cls := .type "list", dict := none, data := .seq ([] : List Value).toArray } = H2 at *
  have hC2 : H2.objs.size = I + 2 := by rw [← hH2, Heap.size_push, hD1]
  have hDn : σ H1.objs.size = none := by
    have := S₂.freshAt; exact this
  have S₃ : Sim prog c ρ (upd σ H1.objs.size (.list [])) { s₁ with heap := H2, toks := s₁.toks } := by
    have := S₂.pushO { cls := .type "list", dict := none, data := .seq ([] : List Value).toArray } (.list []) s₁.toks ⟨_, ⟨0, Heap.get?_push_size _ rfl⟩, .nil⟩
    dsimp only at this
    rw [hH2] at this; exact this
  have hIH2 : H2.get? I = some o := by rw [← hH2, ← hH1, ← hI]; exact Heap.get?_push_of_some _ (Heap.get?_push_size _ hfr)
  have hI1 : I ≠ H1.objs.size := by show @Ne Nat _ _; omega
  have hσ3I : upd σ H1.objs.size (.list []) I = none := by rw [upd_ne hI1]; exact hσI
  -- the ground of the comprehension
  let g : Heap := hideAll (hideS (upd σ H1.objs.size (.list [])) H2) [I]
  have gsome : ∀ b ob, H2.get? b = some ob → upd σ H1.objs.size (.list []) b = none → b ≠ I → g.get? b = some ob := fun b ob e n ne => hideAll_get _ (hideS_some e n) (by simpa using ne)
  have gof : ∀ b ob, g.get? b = some ob → H2.get? b = some ob := fun b ob e => of_hideS (of_hideAll _ e)
  have gI : g.get? I = none := hideAll_none _ (List.mem_singleton.mpr rfl)
  have gnone : ∀ b, upd σ H1.objs.size (.list []) b ≠ none → g.get? b = none := fun b n => by
    cases q : g.get? b with
    | none => rfl
    | some ob => have := of_hideAll _ q; rw [hideS_none n] at this; cases this
  have hF : ∃ m, Fr c.h₀ c.L g m := by
    obtain ⟨m, F⟩ := S₃.fr
    obtain ⟨oL, es, ep, hL, rr⟩ := F.ns
    have nL : upd σ H1.objs.size (.list []) c.L = none := by
      cases q : upd σ H1.objs.size (.list []) c.L with
      | none => rfl
      | some ao => exact absurd rfl (S₃.obj _ _ q).1
    refine ⟨m, ⟨oL, es, ep, gsome _ _ hL nL (Ne.symm hIL), rr⟩, fun b ob e => gsome _ _ (F.keep b ob e) ?_ ?_, F.above⟩
    · cases q : upd σ H1.objs.size (.list []) b with
      | none => rfl
      | some ao => have := (S₃.obj _ _ q).2.1; rw [e] at this; cases this
    · intro z; subst z; rw [hI0] at e; cases e
  let c' : Cx w K := c.comp g hF H2.objs.size
  have hk₁ : ∀ b ob, H2.get? b = some ob → h₁.get? b = some ob := fun b ob e => hsb₁.extBut b ob (Nat.ne_of_lt (Heap.lt_size e)) (Heap.get?_push_of_some _ e)
  have S₄ : Sim prog c' [] (upd σ H1.objs.size (.list [])) { s₁ with heap := h₁, toks := s₁.toks + ([] : List (Str × Value)).length } := by
    refine ⟨⟨_, ⟨hns₁, fun b ob e => hk₁ b ob (gof b ob e), ?_⟩, fun x V e => by simp [lget] at e⟩, fun a ao e => ⟨?_, gnone a (by rw [e]; simp), (S₃.obj a ao e).2.2.mono (tk_of_ext hk₁) fun ob => hk₁ a ob⟩⟩
    · show g.objs.size ≤ H2.objs.size
      exact Nat.le_of_eq ((hideAll_size _ _).trans (hideS_size _ _))
    · intro z
      obtain ⟨ob, hob, _⟩ := (S₃.obj a ao e).2.2.nt
      have : a = H2.objs.size := z
      rw [this] at hob
      exact absurd (Heap.lt_size hob) (Nat.lt_irrefl _)
  obtain ⟨hok, hcb⟩ := h c' H1.objs.size rfl ⟨rfl, hkind, he.gl, he.bu⟩ hDn
  have hok0 := hok _ rfl
  have hf₁ : fact 0 (upd σ H1.objs.size (.list [])) h₁ := W.frame _ _ _ _ _ hf hok0 (fun ob e => hk₁ _ _ (by rw [← hH2]; exact Heap.get?_push_of_some _ e)) (fun b items z => tk_of_ext hk₁ b items (by rw [← hH2]; exact z.push _))
  have loop : codeAny (model prog w) c.A (.compLoop (.ListComp elt [⟨.Name x px, iter, [], 0⟩] scope pos) 0 (.ref I) (.ref H1.objs.size) (compEnvC scope cl H2.objs.size env)) (P (.ref H1.objs.size) H2.objs.size) { s₁ with heap := h₁, toks := s₁.toks + ([] : List (Str × Value)).length } := by
    refine codeAny_mono (comp_loop (c := c') (env := compEnvC scope cl H2.objs.size env) (σ₀ := σ) (s₀ := s₁) (Q := fun σ' => Q (.loc H1.objs.size) σ') W ⟨rfl, hkind, he.gl, he.bu⟩ (lookup_relabel_local hx) (Heap.get?_none_of_le (by omega)) (by show @Ne Nat I H2.objs.size; omega) gI xs 0 [] _ _ rfl (Nat.zero_le _) S₄ ?_ hσ3I hf₁ hcb) fun rr s' hr => ?_
    · -- from the start to here
      refine ⟨⟨_, _, rfl⟩, fun b ob hb hL e => hk₁ b ob (by rw [← hH2, ← hH1]; exact Heap.get?_push_of_some _ (Heap.get?_push_of_some _ e)), fun b items z => tk_of_ext hk₁ b items (by rw [← hH2, ← hH1]; exact (z.push _).push _), fun b hb hb' => ?_⟩
      have : b = H1.objs.size := by
        cases q : decide (b = H1.objs.size) with
        | true => exact of_decide_eq_true q
        | false => exact absurd (by rw [upd_ne (of_decide_eq_false q)]; exact hb) hb'
      subst this
      exact ⟨by show @Ne Nat H1.objs.size H2.objs.size; omega, Heap.get?_none_of_le (by omega)⟩
    · cases rr with
      | error e => exact hr.elim
      | ok fl =>
        obtain ⟨ρ', σ', S', G', q⟩ := hr
        have st : ∃ h tk, s' = { s₁ with heap := h, toks := tk } := G'.st
        obtain ⟨Sb, Gb⟩ := S₁.back (c' := c') (fun b ob e n => gsome b ob (by rw [← hH2, ← hH1]; exact Heap.get?_push_of_some _ (Heap.get?_push_of_some _ e)) (by rw [upd_ne (fun z => by have h1 : @LT.lt Nat _ b s₁.heap.objs.size := Heap.lt_size e; have z' : @Eq Nat b H1.objs.size := z; omega)]; exact n) (fun z => by have h1 : @LT.lt Nat _ b s₁.heap.objs.size := Heap.lt_size e; have z' : @Eq Nat b I := z; omega)) S' st
        obtain ⟨mC, FC⟩ := S'.fr
        have hCn : s₁.heap.get? H2.objs.size = none := Heap.get?_none_of_le (by omega)
        obtain ⟨m0, F0⟩ := S₁.fr
        have hCL : H2.objs.size ≠ c.L := fun z => by
          obtain ⟨oL, es, ep, hL, _⟩ := F0.ns
          rw [← z, hCn] at hL; cases hL
        have hC0 : c.h₀.get? H2.objs.size = none := by
          cases z : c.h₀.get? H2.objs.size with
          | none => rfl
          | some ob => have := F0.keep _ _ z; rw [hCn] at this; cases this
        have hσC : σ' H2.objs.size = none := by
          cases z : σ' H2.objs.size with
          | none => rfl
          | some ao => exact absurd rfl (S'.obj _ _ z).1
        have hP := k H1.objs.size H2.objs.size s' mC σ' FC.ns Sb Gb hCL hC0 hσC hCn q fl
        exact hP
  exact codeAny_compStart_list loop (W.self 0 _ _ _ _ hf₁ loop)
end
end RH
set_option Elab.async false
set_option maxRecDepth 10000
set_option linter.all false
namespace RH
open PySem PySem.W PySem.Calls PyProof.Rows

section
variable {prog : Program} {w : World} {K : Frag} {c : Cx w K} {ρ : Loc} {σ : St} {env : Env} {Q : V → St → Prop}

theorem EV_ListComp {x : Str} {px : Pos} {elt iter : PySem.Expr} {scope : Scope} {cl : List (Str × Addr)} {pos : Pos}
    (he : EnvOk c env) (hclos : closureFor scope env = pure cl) (hcell : ∀ y ∈ scope.names, y.2 ≠ .cell) (hkind : scope.kind = .function) (hnames : ∀ y ∈ scope.names, y.2 = .local → scope.names.lookup y.1 = some .local) (hx : scope.names.lookup x = some .local)
    (hs : ∀ x, foldedSetIterable iter env x = pure x)
    (h : EV prog c (eval iter env) ρ σ fun X σ₁ => ∃ xs ok, IsIt σ₁ X xs ok ∧ ∀ (c' : Cx w K) (D : Addr), c'.d = c.d → EnvOk c' (compEnvC scope cl c'.L env) → σ₁ D = none →
      ok (upd σ₁ D (.list [])) ∧ CB prog c' x elt (compEnvC scope cl c'.L env) ok D xs [] (upd σ₁ D (.list [])) (fun σ' => Q (.loc D) σ')) :
    EV prog c (eval (.ListComp elt [⟨.Name x px, iter, [], 0⟩] scope pos) env) ρ σ Q := fun s S => by
  rw [eval_ListComp]
  refine wpAny_comprehension_free (use := none) rfl hs hclos hkind hnames (h.run S fun xv s₁ X σ₁ r S₁ g₁ ⟨xs, ok, hi, h₁⟩ => ?_)
  refine comp_core he hcell hkind hx S₁ r hi (fun c' D hd he' hD => ⟨fun o e => by subst e; exact (h₁ c' D hd he' hD).1, (h₁ c' D hd he' hD).2⟩) (fun acc C => compPost (model prog w) c.A (fun _ _ => False) none _ acc C) fun D C s' m σ' hn Sb Gb hCL hC0 hσC hCn q fl => ?_
  refine ⟨m, hn, fun h' hs' => ?_⟩
  obtain ⟨oC, es, ep, hoC, hdC, _⟩ := hn
  have nt : NT oC := fun ⟨_, _, _, e⟩ => by rw [hdC] at e; cases e
  exact ⟨_, σ', .loc D, Sb.but hσC hCL hC0 hoC nt hs'.extBut s'.toks, g₁.trans (Gb.but hCn hoC nt hs'.extBut s'.toks), q⟩

theorem EX_ListComp {y x : Str} {px py spos : Pos} {elt iter : PySem.Expr} {scope : Scope} {cl : List (Str × Addr)} {pos : Pos} {Q : Fl → Loc → St → Prop}
    (he : EnvOk c env) (hsw : swapsWith (.ListComp elt [⟨.Name x px, iter, [], 0⟩] scope pos) (some (.Name y py)) spos.line env = pure true) (hclos : closureFor scope env = pure cl) (hcell : ∀ y ∈ scope.names, y.2 ≠ .cell) (hkind : scope.kind = .function) (hnames : ∀ y ∈ scope.names, y.2 = .local → scope.names.lookup y.1 = some .local) (hx : scope.names.lookup x = some .local)
    (hy : env.kindOf y = some .local) (hs : ∀ x, foldedSetIterable iter env x = pure x)
    (h : EV prog c (eval iter env) ρ σ fun X σ₁ => ∃ xs ok, IsIt σ₁ X xs ok ∧ ∀ (c' : Cx w K) (D : Addr), c'.d = c.d → EnvOk c' (compEnvC scope cl c'.L env) → σ₁ D = none →
      ok (upd σ₁ D (.list [])) ∧ CB prog c' x elt (compEnvC scope cl c'.L env) ok D xs [] (upd σ₁ D (.list [])) (fun σ' => Q .next (lset ρ y (.loc D)) σ')) :
    EX prog c (exec (.Assign [.Name y py] (.ListComp elt [⟨.Name x px, iter, [], 0⟩] scope pos) spos) env) ρ σ Q := fun s S => by
  rw [exec_Assign_Name_used _ _ _ _ hsw]
  refine wpAny_bind (wpAny_standAt (wpAny_bind ?_))
  show wpAny _ c.A (do let _ ← comprehension (.ListComp elt [⟨.Name x px, iter, [], 0⟩] scope pos) scope env _ (newList []) false (eval iter env) (some (assign (.Name y py) env))) _ _ s
  refine wpAny_bind (wpAny_mono (wpAny_comprehension_free (use := some (assign (.Name y py) env)) (Q := fun _ s' => ∃ fl ρ' σ', FR s'.heap .next fl ∧ Sim prog c ρ' σ' s' ∧ Go c.L σ s σ' s' ∧ Q fl ρ' σ') rfl hs hclos hkind hnames
    (h.run S fun xv s₁ X σ₁ r S₁ g₁ ⟨xs, ok, hi, h₁⟩ => ?_)) (fun _ s' hq => wpAny_pure (wpAny_pure hq)) fun _ _ e => e)
  refine comp_core (Q := fun V σ' => Q .next (lset ρ y V) σ') he hcell hkind hx S₁ r hi (fun c' D hd he' hD => ⟨fun o e => by subst e; exact (h₁ c' D hd he' hD).1, (h₁ c' D hd he' hD).2⟩) (fun acc C => compPost (model prog w) c.A (fun _ _ => False) (some (assign (.Name y py) env)) _ acc C) fun D C s' m σ' hn Sb Gb hCL hC0 hσC hCn q fl => ?_
  show wpAny _ c.A (assign (.Name y py) env (.ref D)) _ _ _
  refine wpAny_assign_Name (store_local he hy Sb (.loc D) fun s₂ S₂ g₂ => ?_)
  obtain ⟨oC, es, ep, hoC, hdC, r1⟩ := hn
  have hoC2 := g₂.keep C oC hσC hCL hoC
  have nt : NT oC := fun ⟨_, _, _, e⟩ => by rw [hdC] at e; cases e
  refine ⟨m, ⟨oC, es, ep, hoC2, hdC, r1⟩, fun h' hs' => ?_⟩
  exact ⟨.next, _, σ', trivial, S₂.but hσC hCL hC0 hoC2 nt hs'.extBut s₂.toks, g₁.trans ((Gb.trans g₂).but hCn hoC2 nt hs'.extBut s₂.toks), q⟩

/-! a def within a def -/
/-- the table of a code object that makes one function -/
inductive TabIs (P : Addr) (pos : Pos) (qual : Str) (σ : St) : Prop
  | new : σ P = some (.raw (tabObj #[])) → TabIs P pos qual σ
  | old {c' : Addr} {oc : Obj} {vs : Array Value} {t : Tok} : σ P = some (.raw (tabObj #[rawInt pos.line, rawInt pos.col, .ref c'])) → σ c' = some (.raw oc) → oc.data = .fields vs → vs[1]? = some (.str qual t) → c' ≠ P → TabIs P pos qual σ

theorem EX_def {name : Str} {params : Arguments} {body : List Stmt} {scope : Scope} {pos : Pos} {cd P : Addr} {clos : List (Str × Addr)} {Q : Fl → Loc → St → Prop} {qual : Str}
    (he : EnvOk c env) (hd0 : params.defaults = []) (hk0 : params.kw_defaults = []) (ha : annTrees params none env = []) (hy : env.kindOf name = some .local) (hqn : qualnameIn env name name = qual)
    (hcode : env.code = .ref cd) (C : CodeHd c.h₀ cd P) (hcl : closureFor scope env = pure clos) (hT : TabIs P pos qual σ)
    (h : ∀ f c' ctv doc pm σ', f ≠ c' → f ≠ P → c' ≠ P → σ f = none → (∃ oc vs t, σ' c' = some (.raw oc) ∧ oc.data = .fields vs ∧ vs[1]? = some (.str qual t)) →
      σ' f = some (.raw { cls := .type "function", data := .func (fnX name qual params body scope clos .none .none doc pm none (.ref c') ctv) }) → TabIs P pos qual σ' → (∀ a, a ≠ P → a ≠ f → (σ a ≠ none → σ' a = σ a) ∧ (a ≠ c' → σ' a = σ a)) →
      Q .next (lset ρ name (.loc f)) σ') : EX prog c (exec (.FunctionDef name params body [] none [] scope none name pos) env) ρ σ Q := fun s S => by
  refine nestDef_K hd0 hk0 ha ?_
  rw [hqn]
  obtain ⟨m, F⟩ := S.fr
  have hgs := c.T.g.keeps F.keep
  obtain ⟨bm, ob, b1, b2, b3, b4, b5, b6⟩ := c.T.bmain
  have hbG : bm ≠ mainGlobals := fun q => by
    obtain ⟨o, es, ep, e, hd, _⟩ := c.T.g
    rw [q, e] at b3; cases b3; rw [hd] at b6; cases b6
  have base : ∀ ps, σ P = some (.raw (tabObj ps)) → s.heap.get? P = some (tabObj ps) ∧ mainGlobals ≠ P ∧ bm ≠ P ∧ P ≠ c.L := fun ps hP => by
    obtain ⟨hL, h0, hp, _⟩ := S.obj _ _ hP
    refine ⟨hp, fun q => ?_, fun q => ?_, hL⟩
    · obtain ⟨o, es, ep, e, hd, _⟩ := hgs
      rw [q, hp] at e; cases e; cases hd
    · have e := F.keep _ _ b3
      rw [q, hp] at e; cases e; cases b4
  cases hT with
  | new hP =>
    obtain ⟨hp, hgP, hbP, hPL⟩ := base _ hP
    refine makeFunction_K (mg := c.mg) hcl he.gl hgs hcode (C.keeps F.keep) hp (show TriplesOk [] by unfold TriplesOk; trivial) (by rfl) hgP ⟨bm, ob, b1, b2, hbG, hbP, F.keep _ _ b3, b4, b5, b6⟩ fun c' ctv doc h' tk hx hge hlt hrec htb => ?_
    obtain ⟨c₂, oc, vs, t, e2, hoc, hd, hv⟩ := hrec
    cases e2
    -- the table has grown
    have ntP : NT (tabObj #[]) := fun ⟨e, _⟩ => by cases e
    obtain ⟨S1, G1⟩ : Sim prog c ρ (upd σ P (.raw (tabObj #[rawInt pos.line, rawInt pos.col, .ref c']))) { s with heap := h', toks := tk } ∧ Go c.L σ s (upd σ P (.raw (tabObj #[rawInt pos.line, rawInt pos.col, .ref c']))) { s with heap := h', toks := tk } := by
      obtain ⟨m, F, R⟩ := S.loc
      exact S.change2 hP R ⟨F.ns.extBut hx hPL.symm, fun b o e => hx b o (fun q => by subst q; have := (S.obj _ _ hP).2.1; rw [e] at this; cases this) (F.keep b o e), F.above⟩ (fun b ob hb _ e => hx b ob hb e) _ tk fun _ => ⟨by simpa using htb, fun _ _ e => by cases e⟩
    have hc'n : s.heap.get? c' = none := Heap.get?_none_of_le hge
    have hc'P : c' ≠ P := fun z => by rw [z, hp] at hc'n; cases hc'n
    have hc'L : c' ≠ c.L := fun z => by
      obtain ⟨oL, _, _, hL, _⟩ := F.ns
      rw [z, hL] at hc'n; cases hc'n
    have hc'0 : c.h₀.get? c' = none := by
      cases z : c.h₀.get? c' with
      | none => rfl
      | some o => have := F.keep _ _ z; rw [hc'n] at this; cases this
    have hσc' : σ c' = none := by
      cases z : σ c' with
      | none => rfl
      | some ao => obtain ⟨ob, hob, _⟩ := (S.obj _ _ z).2.2.nt; rw [hc'n] at hob; cases hob
    have S2 : Sim prog c ρ (upd (upd σ P (.raw (tabObj #[rawInt pos.line, rawInt pos.col, .ref c']))) c' (.raw oc)) { s with heap := h', toks := tk } :=
      ⟨S1.loc, fun a o e => by
        unfold upd at e
        split at e
        · rename_i z; cases e; subst z; exact ⟨hc'L, hc'0, hoc, fun _ _ e => by rw [hd] at e; cases e⟩
        · exact S1.obj a o e⟩
    have G2 : Go c.L σ s (upd (upd σ P (.raw (tabObj #[rawInt pos.line, rawInt pos.col, .ref c']))) c' (.raw oc)) { s with heap := h', toks := tk } :=
      ⟨G1.st, G1.keep, G1.tk, fun b hb hb' => by
        unfold upd at hb'
        split at hb'
        · rename_i z; subst z; exact ⟨hc'L, hc'n⟩
        · exact G1.new b hb hb'⟩
    have S3 := S2.pushO (fnMade name qual params body scope clos doc ((c.mg "__name__").getD .none) c' ctv) (.raw (fnMade name qual params body scope clos doc ((c.mg "__name__").getD .none) c' ctv)) tk ⟨Heap.get?_push_size _ rfl, fun _ _ e => by cases e⟩
    have G3 := Go.pushO S2 (fnMade name qual params body scope clos doc ((c.mg "__name__").getD .none) c' ctv) (.raw (fnMade name qual params body scope clos doc ((c.mg "__name__").getD .none) c' ctv)) tk
    have hfn : σ h'.objs.size = none := by
      cases z : σ h'.objs.size with
      | none => rfl
      | some ao =>
        obtain ⟨ob, hob, _⟩ := (S.obj _ _ z).2.2.nt
        have h1 : @LT.lt Nat _ h'.objs.size s.heap.objs.size := Heap.lt_size hob
        have h2 : @LE.le Nat _ s.heap.objs.size c' := hge
        have h3 : @LT.lt Nat _ c' h'.objs.size := hlt
        omega
    have hfc' : h'.objs.size ≠ c' := Nat.ne_of_gt hlt
    have hfP : h'.objs.size ≠ P := fun z => by rw [z, hP] at hfn; cases hfn
    refine store_local he hy S3 (.loc _) fun s4 S4 G4 => ⟨.next, _, _, trivial, S4, (G2.trans G3).trans G4, h h'.objs.size c' ctv doc _ _ hfc' hfP hc'P hfn ⟨oc, vs, t, ?_, hd, hv⟩ (upd_same _ _ _) (.old (c' := c') (oc := oc) (vs := vs) (t := t) ?_ ?_ hd hv hc'P) ?_⟩
    · rw [upd_ne (Ne.symm hfc'), upd_same]
    · rw [upd_ne (Ne.symm hfP), upd_ne (Ne.symm hc'P), upd_same]
    · rw [upd_ne (Ne.symm hfc'), upd_same]
    · intro a haP haf
      refine ⟨fun hn => ?_, fun hac => ?_⟩
      · have hac : a ≠ c' := fun z => by subst z; exact hn hσc'
        rw [upd_ne haf, upd_ne hac, upd_ne haP]
      · rw [upd_ne haf, upd_ne hac, upd_ne haP]
  | @old c' oc vs t hP hc hd hv hne =>
    obtain ⟨hp, hgP, hbP, hPL⟩ := base _ hP
    have hf : codeAmong pos (#[rawInt pos.line, rawInt pos.col, .ref c'] : Array Value).toList = some (.ref c') := by
      simp [codeAmong, rawInt]
    refine makeFunction_hit (mg := c.mg) hcl he.gl hgs hcode (C.keeps F.keep) hp (TriplesOk_snoc _ _ _ [] (by unfold TriplesOk; trivial)) hf ⟨bm, ob, b1, b2, hbG, hbP, F.keep _ _ b3, b4, b5, b6⟩ fun ctv doc h' tk hk hsz => ?_
    have S2 := S.ext tk hk
    have G2 := Go.ext (s := s) c.L σ tk hk
    have S3 := S2.pushO (fnMade name qual params body scope clos doc ((c.mg "__name__").getD .none) c' ctv) (.raw (fnMade name qual params body scope clos doc ((c.mg "__name__").getD .none) c' ctv)) tk ⟨Heap.get?_push_size _ rfl, fun _ _ e => by cases e⟩
    have G3 := Go.pushO S2 (fnMade name qual params body scope clos doc ((c.mg "__name__").getD .none) c' ctv) (.raw (fnMade name qual params body scope clos doc ((c.mg "__name__").getD .none) c' ctv)) tk
    have hfn : σ h'.objs.size = none := S2.freshAt
    have hfP : h'.objs.size ≠ P := fun z => by rw [z, hP] at hfn; cases hfn
    have hfc : h'.objs.size ≠ c' := fun z => by rw [z, hc] at hfn; cases hfn
    refine store_local he hy S3 (.loc _) fun s4 S4 G4 => ⟨.next, _, _, trivial, S4, (G2.trans G3).trans G4, h h'.objs.size c' ctv doc _ _ hfc hfP hne hfn ⟨oc, vs, t, ?_, hd, hv⟩ (upd_same _ _ _) (.old (c' := c') (oc := oc) (vs := vs) (t := t) ?_ ?_ hd hv hne) ?_⟩
    · rw [upd_ne (Ne.symm hfc)]; exact hc
    · rw [upd_ne (Ne.symm hfP)]; exact hP
    · rw [upd_ne (Ne.symm hfc)]; exact hc
    · intro a haP haf
      exact ⟨fun _ => upd_ne haf, fun _ => upd_ne haf⟩
end
end RH
set_option Elab.async false
set_option maxRecDepth 10000
set_option linter.all false
namespace RH
open PySem PySem.W PySem.Calls PyProof.Rows

section
variable {prog : Program} {w : World} {K : Frag} {c : Cx w K} {ρ : Loc} {σ : St} {env : Env} {Q : V → St → Prop}

/-! built-ins by name -/
theorem EV_bcall {x : Str} {id : String} {np pos : Pos} {e : PySem.Expr} {rest : List PySem.Expr} (he : EnvOk c env) (hk : env.kindOf x = some .globalImplicit) (hd : (x == ("__debug__" : Str)) = false) (hn : nsIn K mainGlobals x = some none) (hb : bootBuiltins x = some (.builtin id)) (hnn : x ≠ "__name__")
    (hc : eval (.Call (.Name x np) (e :: rest) [] pos) env = (do callWith pos (← eval (.Name x np) env) [] (backTo pos (starEach (e :: rest) env)) (backToKw pos (keywordEach [] env))))
    (hs : starEach (e :: rest) env = (false, eval e env) :: starEach rest env) (hplain : (backTo pos (starEach rest env)).any (·.1) = false)
    (h : EVs prog c (spliced (backTo pos (starEach (e :: rest) env))) ρ σ fun xs σ₁ => OPn prog c (fun vs => call (.builtin id) vs) xs ρ σ₁ Q) :
    EV prog c (eval (.Call (.Name x np) (e :: rest) [] pos) env) ρ σ Q := fun s S =>
  Call_ (EV_builtin_raw S he hk hd hn hb hnn (PyProof.Rows.callWith_builtin1 (h.run S fun vs s₁ xs σ₁ rs S₁ g₁ h₁ => OPn.run (f := fun vs => call (.builtin id) vs) h₁ S₁ rs fun v s₂ V σ₂ r S₂ g₂ q => ⟨V, σ₂, r, S₂, g₁.trans g₂, q⟩) hs hplain)) hc
theorem EV_tcall {x : Str} {T : String} {np pos : Pos} {e : PySem.Expr} {rest : List PySem.Expr} (he : EnvOk c env) (hk : env.kindOf x = some .globalImplicit) (hd : (x == ("__debug__" : Str)) = false) (hn : nsIn K mainGlobals x = some none) (hb : bootBuiltins x = some (.type T)) (hnn : x ≠ "__name__")
    (hc : eval (.Call (.Name x np) (e :: rest) [] pos) env = (do callWith pos (← eval (.Name x np) env) [] (backTo pos (starEach (e :: rest) env)) (backToKw pos (keywordEach [] env))))
    (hs : starEach (e :: rest) env = (false, eval e env) :: starEach rest env) (hplain : (backTo pos (starEach rest env)).any (·.1) = false)
    (h : EVs prog c (spliced (backTo pos (starEach (e :: rest) env))) ρ σ fun xs σ₁ => OPn prog c (fun vs => call (.type T) vs) xs ρ σ₁ Q) :
    EV prog c (eval (.Call (.Name x np) (e :: rest) [] pos) env) ρ σ Q := fun s S =>
  Call_ (EV_builtin_raw S he hk hd hn hb hnn (PyProof.Rows.callWith_type1 (h.run S fun vs s₁ xs σ₁ rs S₁ g₁ h₁ => OPn.run (f := fun vs => call (.type T) vs) h₁ S₁ rs fun v s₂ V σ₂ r S₂ g₂ q => ⟨V, σ₂, r, S₂, g₁.trans g₂, q⟩) hs hplain)) hc

theorem len_items {h : Heap} {items : Array Value} {vs : List V} (r : VRs h items.toList vs) : items.size = vs.length := by rw [← r.length, Array.length_toList]
theorem OP_len_list {a : Addr} {vs : List V} (ha : σ a = some (.list vs)) (hz : vs.length ≤ 1000000) (h : Q (.int vs.length) σ) : OPn prog c (fun vs => call (.builtin "len") vs) [.loc a] ρ σ Q := fun s us S rs => by
  cases rs with | cons r rs => cases rs; cases r
                               obtain ⟨_, _, items, hl, hv⟩ := S.obj _ _ ha
                               have hs := len_items hv
                               refine call_len_list hl.isList (by omega) ⟨_, σ, ?_, S.toks _, Go.toks _ _ _, h⟩
                               rw [hs]; exact .int _ _
theorem OP_len_tuple {vs : List V} (hz : vs.length ≤ 1000000) (h : Q (.int vs.length) σ) : OPn prog c (fun vs => call (.builtin "len") vs) [.tup vs] ρ σ Q := fun s us S rs => by
  cases rs with | cons r rs => cases rs; cases r with | tup ht hv =>
                                         have hs := len_items hv
                                         refine PyProof.Rows.len_tuple ht (by omega) ⟨_, σ, ?_, S.toks _, Go.toks _ _ _, h⟩
                                         rw [hs]; exact .int _ _
theorem OP_len_dictI {a : Addr} {kvs : List (Int × V)} (ha : σ a = some (.dictI kvs)) (hz : kvs.length ≤ 1000000) (h : Q (.int kvs.length) σ) : OPn prog c (fun vs => call (.builtin "len") vs) [.loc a] ρ σ Q := fun s us S rs => by
  cases rs with | cons r rs => cases rs; cases r
                               obtain ⟨_, _, z, kv, hd, hk, hv⟩ := S.obj _ _ ha
                               have hl : kv.length = kvs.length := by have := congrArg List.length hk; simpa using this
                               refine call_len_dict z hd (by omega) ⟨_, σ, ?_, S.toks _, Go.toks _ _ _, h⟩
                               rw [hl]; exact .int _ _
theorem OP_abs {i : Int} (h : Q (.int (if i < 0 then -i else i)) σ) : OPn prog c (fun vs => call (.builtin "abs") vs) [.int i] ρ σ Q := fun s us S rs => by
  cases rs with | cons r rs => cases rs; cases r
                               exact call_abs_int fun u tk => ⟨_, σ, .int _ _, S.toks _, Go.toks _ _ _, h⟩
theorem OP_range {i : Int} (h : ∀ a t u v, σ a = none → Q (.loc a) (upd σ a (.raw { cls := .type "range", data := .fields #[.int 0 t, .int i u, .int 1 v] }))) : OPn prog c (fun vs => call (.type "range") vs) [.int i] ρ σ Q := fun s us S rs => by
  cases rs with | cons r rs => cases rs; cases r
                               refine call_range_1 ?_
                               exact ⟨_, _, .loc _, S.pushO _ (.raw { cls := .type "range", data := .fields #[.int 0 s.toks, .int i _, .int 1 (s.toks + 1)] }) _ (show OR prog w _ _ (.raw _) from ⟨Heap.get?_push_size _ rfl, fun _ _ e => by cases e⟩), Go.pushO S _ _ _, h _ _ _ _ S.freshAt⟩
theorem OP_tuple_list {a : Addr} {vs : List V} (ha : σ a = some (.list vs)) (hz : vs.length ≤ 1000000) (h : Q (.tup vs) σ) : OPn prog c (fun vs => call (.type "tuple") vs) [.loc a] ρ σ Q := fun s us S rs => by
  cases rs with | cons r rs => cases rs; cases r
                               obtain ⟨_, _, items, hl, hv⟩ := S.obj _ _ ha
                               have hs := len_items hv
                               refine call_tuple_list hl.isList (fun h' k => ?_) (by rw [hs]; exact Nat.le_trans hz (by decide))
                               have S1 := S.ext s.toks k
                               exact ⟨_, σ, .tup ⟨_, Heap.get?_push_size _ rfl, rfl, 0, rfl⟩ ((hv.mono (tk_of_ext k)).mono (TK.push _ _)), S1.pushT _ _, (Go.ext (s := s) c.L σ s.toks k).trans (Go.pushT _ _ _ _), h⟩

/-! methods of built-in values -/
theorem EV_bmeth {o : PySem.Expr} {name : Str} {T id : String} {apos pos : Pos} {e : PySem.Expr} {rest : List PySem.Expr} (hbase : attributeBase o name env (eval o env) = eval o env)
    (hfew : ((backTo pos (starEach (e :: rest) env)).all (fun x => !x.1) && (backToKw pos (keywordEach [] env)).all (fun x => x.1.isSome) && decide ((e :: rest).length + ([] : List Keyword).length + (if ([] : List Keyword).isEmpty then 0 else 1) < 30)) = true)
    (hline : (apos.endLine == pos.line) = true) (pa : PlainAttrs T) (slot : Slot T name id) (hty : typeOf (.builtin id) = pure (.type "method_descriptor"))
    (hs : starEach (e :: rest) env = (false, eval e env) :: starEach rest env) (hplain : (backTo pos (starEach rest env)).any (·.1) = false)
    (h : EV prog c (eval o env) ρ σ fun X σ₁ => ∃ a, X = .loc a ∧ (∀ s, Sim prog c ρ σ₁ s → s.TypeIs (.ref a) T ∧ ∃ ob, s.heap.get? a = some ob ∧ ob.dict = none) ∧
      EVs prog c (spliced (backTo pos (starEach (e :: rest) env))) ρ σ₁ fun xs σ₂ => OPn prog c (fun vs => call (.builtin id) vs) (.loc a :: xs) ρ σ₂ Q) :
    EV prog c (eval (.Call (.Attribute o name apos) (e :: rest) [] pos) env) ρ σ Q := fun s S =>
  wpAny_Call_method hbase hfew hline pa slot hty (h.run S fun ov s₁ X σ₁ r S₁ g₁ ⟨a, ex, hT, h₁⟩ => by
    subst ex; cases r
    obtain ⟨t1, t2⟩ := hT s₁ S₁
    refine ⟨t1, fun b hb => by cases hb; exact t2, callWith_method1 (h₁.run S₁ fun vs s₂ xs σ₂ rs S₂ g₂ h₂ => ?_) hs hplain⟩
    exact OPn.run (f := fun vs => call (.builtin id) vs) h₂ S₂ (.cons (.loc a) rs) fun v s₃ V σ₃ r S₃ g₃ q => ⟨V, σ₃, r, S₃, (g₁.trans g₂).trans g₃, q⟩)
theorem EV_bmeth0 {o : PySem.Expr} {name : Str} {T id : String} {apos pos : Pos} (hbase : attributeBase o name env (eval o env) = eval o env)
    (hline : (apos.endLine == pos.line) = true) (pa : PlainAttrs T) (slot : Slot T name id) (hty : typeOf (.builtin id) = pure (.type "method_descriptor"))
    (h : EV prog c (eval o env) ρ σ fun X σ₁ => ∃ a, X = .loc a ∧ (∀ s, Sim prog c ρ σ₁ s → s.TypeIs (.ref a) T ∧ ∃ ob, s.heap.get? a = some ob ∧ ob.dict = none) ∧ OPn prog c (fun vs => call (.builtin id) vs) [.loc a] ρ σ₁ Q) :
    EV prog c (eval (.Call (.Attribute o name apos) [] [] pos) env) ρ σ Q := fun s S =>
  wpAny_Call_method hbase rfl hline pa slot hty (h.run S fun ov s₁ X σ₁ r S₁ g₁ ⟨a, ex, hT, h₁⟩ => by
    subst ex; cases r
    obtain ⟨t1, t2⟩ := hT s₁ S₁
    exact ⟨t1, fun b hb => by cases hb; exact t2, callWith_method0 (OPn.run (f := fun vs => call (.builtin id) vs) h₁ S₁ (.cons (.loc a) .nil) fun v s₃ V σ₃ r S₃ g₃ q => ⟨V, σ₃, r, S₃, g₁.trans g₃, q⟩)⟩)
theorem isListT {a : Addr} {vs : List V} (ha : σ a = some (.list vs)) : ∀ s, Sim prog c ρ σ s → s.TypeIs (.ref a) "list" ∧ ∃ ob, s.heap.get? a = some ob ∧ ob.dict = none := fun s S => by
  obtain ⟨_, _, items, ⟨n, hn⟩, _⟩ := S.obj _ _ ha
  exact ⟨⟨_, hn, rfl⟩, _, hn, rfl⟩
theorem isDictI {a : Addr} {vs : List (Int × V)} (ha : σ a = some (.dictI vs)) : ∀ s, Sim prog c ρ σ s → s.TypeIs (.ref a) "dict" ∧ ∃ ob, s.heap.get? a = some ob ∧ ob.dict = none := fun s S => by
  obtain ⟨_, _, _, kv, ⟨o, es, ep, ho, hx, _⟩, _⟩ := S.obj _ _ ha
  exact ⟨⟨_, ho, hx.1⟩, _, ho, hx.2.1⟩
theorem isDictS {a : Addr} {vs : List (Str × V)} (ha : σ a = some (.dictS vs)) : ∀ s, Sim prog c ρ σ s → s.TypeIs (.ref a) "dict" ∧ ∃ ob, s.heap.get? a = some ob ∧ ob.dict = none := fun s S => by
  obtain ⟨_, _, _, kv, ⟨o, es, ep, ho, hx, _⟩, _⟩ := S.obj _ _ ha
  exact ⟨⟨_, ho, hx.1⟩, _, ho, hx.2.1⟩
theorem isDictT {a : Addr} {vs : List (List Int × V)} (ha : σ a = some (.dictT vs)) : ∀ s, Sim prog c ρ σ s → s.TypeIs (.ref a) "dict" ∧ ∃ ob, s.heap.get? a = some ob ∧ ob.dict = none := fun s S => by
  obtain ⟨_, _, _, kv, ⟨o, es, ep, ho, hx, _⟩, _⟩ := S.obj _ _ ha
  exact ⟨⟨_, ho, hx.1⟩, _, ho, hx.2.1⟩

theorem OP_append {a : Addr} {ys : List V} {y : V} (ha : σ a = some (.list ys)) (hz : ys.length ≤ 1000000) (h : Q .none (upd σ a (.list (ys ++ [y])))) : OPn prog c (fun vs => call (.builtin "list.append") vs) [.loc a, y] ρ σ Q := fun s us S rs => by
  cases rs with | cons r rs => cases rs with | cons r' rs => cases rs; cases r
                                                             exact append_op S ha hz r' fun s' S' g' => ⟨_, _, .none, S', g', h⟩
theorem OP_pop {a : Addr} {ys : List V} {y : V} (ha : σ a = some (.list (ys ++ [y]))) (hz : ys.length ≤ 1000000) (h : Q y (upd σ a (.list ys))) : OPn prog c (fun vs => call (.builtin "list.pop") vs) [.loc a] ρ σ Q := fun s us S rs => by
  cases rs with | cons r rs => cases rs; cases r
                               obtain ⟨_, _, items, ⟨n, hn⟩, hv⟩ := S.obj _ _ ha
                               have hs := len_items hv
                               obtain ⟨ws, v, e, hw, rv⟩ := hv.unsnoc
                               have hi : items = (ws ++ [v]).toArray := by rw [← e]
                               subst hi
                               have hwl := hw.length
                               refine Copied.pop_at (y := v) hn (by simp) (fun h' hs' hn' => ?_) (by simp; exact Nat.le_trans (by omega) (by decide : 1000001 ≤ sizeLine))
                               have tk : TK s.heap h' := tk_of_same hs' hn fun ⟨e, _⟩ => by simp at e
                               exact ⟨_, _, rv.mono tk, S.change ha hs' (.list ys) s.toks ⟨_, ⟨_, hn'⟩, by simpa using hw.mono tk⟩, Go.change S ha hs' _ _, h⟩
theorem OP_reverse {a : Addr} {ys : List V} (ha : σ a = some (.list ys)) (hz : ys.length ≤ 1000000) (h : Q .none (upd σ a (.list ys.reverse))) : OPn prog c (fun vs => call (.builtin "list.reverse") vs) [.loc a] ρ σ Q := fun s us S rs => by
  cases rs with | cons r rs => cases rs; cases r
                               obtain ⟨_, _, items, ⟨n, hn⟩, hv⟩ := S.obj _ _ ha
                               have hs := len_items hv
                               refine call_meets F.slot_list_reverse ⟨_, hn, rfl⟩ F.entry_list_reverse (F.args_list_reverse_1 _) (AutoListH.list_reverse_list_0 a _ n (by rw [hs]; exact Nat.le_trans hz (by decide))) ⟨hn, ?_⟩
                               have hs' : Heap.SameBut a s.heap (s.heap.update a (Obj.mapSeq fun x => x.reverse)) := Heap.SameBut.update ..
                               have tk : TK s.heap (s.heap.update a (Obj.mapSeq fun x => x.reverse)) := tk_of_same hs' hn fun ⟨e, _⟩ => by simp at e
                               exact ⟨_, _, .none, S.change ha hs' (.list ys.reverse) s.toks ⟨items.reverse, ⟨n, (Heap.get?_update_self _ hn rfl).trans (by simp only [Obj.mapSeq]; simp)⟩, by simpa using (hv.mono tk).reverse⟩, Go.change S ha hs' _ _, h⟩
end
end RH
set_option Elab.async false
set_option maxRecDepth 10000
set_option linter.all false
namespace RH
open PySem PySem.W PySem.Calls PyProof.Rows

section
variable {prog : Program} {w : World} {K : Frag} {c : Cx w K} {ρ : Loc} {σ : St} {env : Env} {Q : V → St → Prop}

/-! indexing -/
def seqOf (σ : St) : V → Option (List V)
  | .tup vs => some vs
  | .loc a => match σ a with
    | some (.list vs) => some vs
    | _ => none
  | _ => none
def vidx (vs : List V) (k : Int) : Option V :=
  if k < -1000001 ∨ 1000001 < k then none
  else if 0 ≤ k then vs[k.toNat]?
  else if -(vs.length : Int) ≤ k then vs[(k + vs.length).toNat]? else none

theorem seqIx {k : Int} {n : Nat} (h : 0 ≤ k) (h2 : k.toNat < n) : seqIndex? k n = some k.toNat := by
  have e : ¬ k < 0 := by omega
  have e2 : k < (n : Int) := by omega
  simp [seqIndex?, e, h, e2]
theorem seqIxN {k : Int} {n : Nat} (h : k < 0) (h1 : -(n : Int) ≤ k) (h2 : (k + n).toNat < n) : seqIndex? k n = some (k + n).toNat := by
  have e : 0 ≤ k + n := by omega
  have e2 : k + n < (n : Int) := by omega
  simp [seqIndex?, h, e, e2]
theorem EV_Sub {value slice : PySem.Expr} {pos : Pos} (hs : ∀ o i, subscripted slice false o i = operate [o, i] (getItem o i))
    (h : EV prog c (eval value env) ρ σ fun X σ₁ => EV prog c (eval slice env) ρ σ₁ fun I σ₂ => ∃ vs k V, seqOf σ₂ X = some vs ∧ I = .int k ∧ vidx vs k = some V ∧ Q V σ₂) :
    EV prog c (eval (.Subscript value slice pos) env) ρ σ Q := fun s S =>
  Subscript_ (h.run S fun o s₁ X σ₁ rX S₁ g₁ h₁ => h₁.run S₁ fun i s₂ I σ₂ rI S₂ g₂ ⟨vs, k, V, hq, ek, hv, q⟩ => by
    subst ek
    cases rI with | int _ t =>
    replace rX := rX.mono g₂.tk
    have hb : ¬ (k < -1000001 ∨ 1000001 < k) := fun e => by rw [vidx, if_pos e] at hv; cases hv
    rw [vidx, if_neg hb] at hv
    cases rX with
    | none => cases hq
    | bool b => cases hq
    | int i t => cases hq
    | str x t => cases hq
    | @tup a items vs' ht hvs =>
      cases hq
      have hsz := len_items hvs
      by_cases h0 : 0 ≤ k
      · rw [if_pos h0] at hv
        obtain ⟨v, hi, rv⟩ := items_get hvs hv
        have hlt : k.toNat < vs.length := (List.getElem?_eq_some_iff.mp hv).1
        refine tail_any (T := "tuple") ht.typeIs slot_tuple_getitem.lookup (PyProof.Rows.getItem_tuple (j := k.toNat) ht (by omega) (by omega) (seqIx h0 (by rw [hsz]; exact hlt)) hi ⟨V, σ₂, rv, S₂, g₁.trans g₂, q⟩) (hs _ _)
      · rw [if_neg h0] at hv
        by_cases h1 : -(vs.length : Int) ≤ k
        · rw [if_pos h1] at hv
          obtain ⟨v, hi, rv⟩ := items_get hvs hv
          have hlt : (k + vs.length).toNat < vs.length := (List.getElem?_eq_some_iff.mp hv).1
          refine tail_any (T := "tuple") ht.typeIs slot_tuple_getitem.lookup (PyProof.Rows.getItem_tuple (j := (k + vs.length).toNat) ht (by omega) (by omega) (by rw [hsz]; exact seqIxN (by omega) h1 hlt) hi ⟨V, σ₂, rv, S₂, g₁.trans g₂, q⟩) (hs _ _)
        · rw [if_neg h1] at hv; cases hv
    | loc a =>
      have hl : ∃ vs', σ₂ a = some (.list vs') ∧ vs' = vs := by
        simp only [seqOf] at hq
        split at hq
        · cases hq; exact ⟨_, by assumption, rfl⟩
        · cases hq
      obtain ⟨_, hl, rfl⟩ := hl
      obtain ⟨_, _, items, hpl, hvs⟩ := S₂.obj _ _ hl
      have hsz := len_items hvs
      rename_i vs'
      by_cases h0 : 0 ≤ k
      · rw [if_pos h0] at hv
        obtain ⟨v, hi, rv⟩ := items_get hvs hv
        exact tail_any (T := "list") hpl.isList.typeIs slot_list_getitem.lookup (wpAny_getItem_list hpl.isList h0 (by omega) hi ⟨V, σ₂, rv, S₂, g₁.trans g₂, q⟩) (hs _ _)
      · rw [if_neg h0] at hv
        split at hv
        · rename_i h1
          obtain ⟨v, hi, rv⟩ := items_get hvs hv
          exact tail_any (T := "list") hpl.isList.typeIs slot_list_getitem.lookup (wpAny_getItem_list_neg hpl.isList (by omega) (by omega) (by omega) (by rw [hsz]; exact hi) ⟨V, σ₂, rv, S₂, g₁.trans g₂, q⟩) (hs _ _)
        · cases hv)

/-! tables -/
def kget {κ : Type} [DecidableEq κ] (kvs : List (κ × V)) (k : κ) : Option V := (kvs.find? fun kv => kv.1 = k).map (·.2)
def kset {κ : Type} [DecidableEq κ] (kvs : List (κ × V)) (k : κ) (v : V) : List (κ × V) :=
  if kvs.any (fun kv => kv.1 = k) then kvs.map (fun kv => if kv.1 = k then (kv.1, v) else kv) else kvs ++ [(k, v)]
theorem KR.at {κ : Type} [DecidableEq κ] {h : Heap} : ∀ {kvs : List (κ × V)} {kv : List (κ × Value)}, kv.map (·.1) = kvs.map (·.1) → VRs h (kv.map (·.2)) (kvs.map (·.2)) → ∀ k, CR h (valueAt kv k) (kget kvs k)
  | [], [], _, _, k => trivial
  | [], _ :: _, e, _, _ => by simp at e
  | _ :: _, [], e, _, _ => by simp at e
  | (k', x) :: kvs, (k'', v) :: kv, e, r, k => by
    simp only [List.map_cons, List.cons.injEq] at e r
    cases r with
    | cons ra rb =>
      have ih := KR.at e.2 rb k
      have e1 : k'' = k' := e.1
      subst e1
      unfold valueAt kget at *
      simp only [List.find?_cons]
      by_cases q : k'' = k
      · simp only [q, decide_true]; exact ra
      · simp only [q, decide_false]; exact ih
theorem KR.map {κ : Type} [DecidableEq κ] {h : Heap} {k : κ} {v : Value} {x : V} (rv : VR h v x) : ∀ {kvs : List (κ × V)} {kv : List (κ × Value)}, kv.map (·.1) = kvs.map (·.1) → VRs h (kv.map (·.2)) (kvs.map (·.2)) →
    (kv.map (fun p => if p.1 = k then (p.1, v) else p)).map (·.1) = (kvs.map (fun p => if p.1 = k then (p.1, x) else p)).map (·.1) ∧ VRs h ((kv.map (fun p => if p.1 = k then (p.1, v) else p)).map (·.2)) ((kvs.map (fun p => if p.1 = k then (p.1, x) else p)).map (·.2))
  | [], [], _, _ => ⟨rfl, .nil⟩
  | [], _ :: _, e, _ => by simp at e
  | _ :: _, [], e, _ => by simp at e
  | (k', y) :: kvs, (k'', u) :: kv, e, r => by
    simp only [List.map_cons, List.cons.injEq] at e r
    cases r with
    | cons ra rb =>
      obtain ⟨i1, i2⟩ := KR.map (k := k) rv e.2 rb
      have e1 : k'' = k' := e.1
      subst e1
      simp only [List.map_cons]
      by_cases q : k'' = k
      · simp only [if_pos q]; exact ⟨by rw [i1], .cons rv i2⟩
      · simp only [if_neg q]; exact ⟨by rw [i1], .cons ra i2⟩
theorem any_keys {κ β : Type} [DecidableEq κ] (k : κ) (kv : List (κ × β)) : kv.any (fun p => p.1 = k) = (kv.map (·.1)).any (fun y => y = k) := by
  rw [List.any_map]; rfl
theorem KR.put {κ : Type} [DecidableEq κ] {h : Heap} {k : κ} {v : Value} {x : V} (rv : VR h v x) {kvs : List (κ × V)} {kv : List (κ × Value)} (e : kv.map (·.1) = kvs.map (·.1)) (r : VRs h (kv.map (·.2)) (kvs.map (·.2))) :
    (stored kv k v).map (·.1) = (kset kvs k x).map (·.1) ∧ VRs h ((stored kv k v).map (·.2)) ((kset kvs k x).map (·.2)) := by
  have ha : kv.any (fun p => p.1 = k) = kvs.any (fun p => p.1 = k) := by rw [any_keys, any_keys, e]
  unfold stored kset
  rw [ha]
  split
  · exact KR.map rv e r
  · refine ⟨by simp [e], ?_⟩
    simp only [List.map_append, List.map_cons, List.map_nil]
    exact r.snoc rv
theorem KR.len {κ : Type} {kvs : List (κ × V)} {kv : List (κ × Value)} (e : kv.map (·.1) = kvs.map (·.1)) : kv.length = kvs.length := by have := congrArg List.length e; simpa using this
theorem KRH.at {κ : Type} [DecidableEq κ] (xs : List (κ × Addr × Value)) (k : κ) : (atKey xs k).map (·.2) = valueAt (xs.map fun p => (p.1, p.2.2)) k := by
  unfold atKey valueAt
  induction xs with
  | nil => rfl
  | cons p r ih =>
    simp only [List.map_cons, List.find?_cons]
    by_cases q : p.1 = k
    · simp [q]
    · simp only [q, decide_false]; exact ih
theorem KRH.put {κ : Type} [DecidableEq κ] (xs : List (κ × Addr × Value)) (k : κ) (a : Addr) (v : Value) : (storedH xs k a v).map (fun p => (p.1, p.2.2)) = stored (xs.map fun p => (p.1, p.2.2)) k v := by
  have ha : (atKey xs k).isSome = (xs.map fun p => (p.1, p.2.2)).any (fun p => p.1 = k) := by
    unfold atKey
    induction xs with
    | nil => rfl
    | cons p r ih =>
      simp only [List.map_cons, List.find?_cons, List.any_cons]
      by_cases q : p.1 = k
      · simp [q]
      · simp only [q, decide_false, Bool.false_or]; exact ih
  unfold storedH stored
  rw [ha]
  split
  · simp only [List.map_map]
    apply List.map_congr_left
    intro p _
    simp only [Function.comp, putAt]
    split <;> rfl
  · simp

theorem OP_in_dictI {a : Addr} {kvs : List (Int × V)} {k : Int} (ha : σ a = some (.dictI kvs)) (h : Q (.bool (kget kvs k).isSome) σ) : OP2 prog c (compareOp .In) (.int k) (.loc a) ρ σ Q := fun s v u S r₁ r₂ => by
  cases r₁ with | int _ t =>
  cases r₂
  obtain ⟨_, _, z, kv, hd, e, r⟩ := S.obj _ _ ha
  have key := KR.at e r k
  have hb : (valueAt kv k).isSome = (kget kvs k).isSome := by
    revert key; cases valueAt kv k <;> cases kget kvs k <;> simp [CR]
  exact wpAny_in_of (intKind_is prog w k t) z hd.mapOf (by rw [hb]; exact ⟨_, σ, .bool _, S.toks _, Go.toks _ _ _, h⟩)
theorem OP_notIn_dictI {a : Addr} {kvs : List (Int × V)} {k : Int} (ha : σ a = some (.dictI kvs)) (h : Q (.bool (!(kget kvs k).isSome)) σ) : OP2 prog c (compareOp .NotIn) (.int k) (.loc a) ρ σ Q := fun s v u S r₁ r₂ => by
  cases r₁ with | int _ t =>
  cases r₂
  obtain ⟨_, _, z, kv, hd, e, r⟩ := S.obj _ _ ha
  have key := KR.at e r k
  have hb : (valueAt kv k).isSome = (kget kvs k).isSome := by
    revert key; cases valueAt kv k <;> cases kget kvs k <;> simp [CR]
  exact wpAny_notIn_of (intKind_is prog w k t) z hd.mapOf (by rw [hb]; exact ⟨_, σ, .bool _, S.toks _, Go.toks _ _ _, h⟩)
theorem EV_SubI {value slice : PySem.Expr} {pos : Pos} (hs : ∀ o i, subscripted slice false o i = operate [o, i] (getItem o i))
    (h : EV prog c (eval value env) ρ σ fun X σ₁ => EV prog c (eval slice env) ρ σ₁ fun I σ₂ => ∃ a kvs k V, X = .loc a ∧ σ₂ a = some (.dictI kvs) ∧ I = .int k ∧ kget kvs k = some V ∧ Q V σ₂) :
    EV prog c (eval (.Subscript value slice pos) env) ρ σ Q := fun s S =>
  Subscript_ (h.run S fun o s₁ X σ₁ rX S₁ g₁ h₁ => h₁.run S₁ fun i s₂ I σ₂ rI S₂ g₂ ⟨a, kvs, k, V, ex, ha, ek, hv, q⟩ => by
    subst ex; subst ek
    cases rI with | int _ t =>
    cases rX
    obtain ⟨_, _, z, kv, hd, e, r⟩ := S₂.obj _ _ ha
    have key := KR.at e r k
    rw [hv] at key
    cases hk : valueAt kv k with
    | none => rw [hk] at key; exact key.elim
    | some v =>
      rw [hk] at key
      exact tail_any (T := "dict") hd.typeIs slot_dict_getitem.lookup (wpAny_getItem_of (intKind_is prog w k t) hd.mapOf hk ⟨V, σ₂, key, S₂.toks _, (g₁.trans g₂).trans (Go.toks _ _ _), q⟩) (hs _ _))

theorem NT_dict {o : Obj} {es ep} (h : o.data = .dict es ep) : NT o := fun ⟨_, _, _, e⟩ => by rw [h] at e; cases e
theorem setI {a : Addr} {kvs : List (Int × V)} {k : Int} {t : Tok} {v : Value} {V : V} {s : Shared} {P : Unit → Shared → Prop} {E : Value → Shared → Prop} (S : Sim prog c ρ σ s) (ha : σ a = some (.dictI kvs)) (hz : kvs.length ≤ 1000000) (rv : VR s.heap v V)
    (q : ∀ s', Sim prog c ρ (upd σ a (.dictI (kset kvs k V))) s' → Go c.L σ s (upd σ a (.dictI (kset kvs k V))) s' → P () s') : wpAny (model prog w) c.A (setItem (.ref a) (.int k t) v) P E s := by
  obtain ⟨_, _, z, kv, hd, e, r⟩ := S.obj _ _ ha
  refine wpAny_setItem_pairs (intKind_is prog w k t) hd (fun h' hd' hs' => ?_) (by rw [KR.len e]; exact Nat.le_trans hz (by decide))
  obtain ⟨o, es, ep, ho, _, hdd, _⟩ := hd
  have tk : TK s.heap h' := tk_of_same hs' ho (NT_dict hdd)
  obtain ⟨p1, p2⟩ := KR.put (k := k) (rv.mono tk) e (r.mono tk)
  exact q _ (S.change ha hs' (.dictI (kset kvs k V)) _ ⟨z, _, hd', p1, p2⟩) (Go.change S ha hs' _ _)
theorem setS {a : Addr} {kvs : List (Str × V)} {k : Str} {t : Tok} {v : Value} {V : V} {s : Shared} {P : Unit → Shared → Prop} {E : Value → Shared → Prop} (S : Sim prog c ρ σ s) (ha : σ a = some (.dictS kvs)) (hz : kvs.length ≤ 1000000) (rv : VR s.heap v V)
    (q : ∀ s', Sim prog c ρ (upd σ a (.dictS (kset kvs k V))) s' → Go c.L σ s (upd σ a (.dictS (kset kvs k V))) s' → P () s') : wpAny (model prog w) c.A (setItem (.ref a) (.str k t) v) P E s := by
  obtain ⟨_, _, z, kv, hd, e, r⟩ := S.obj _ _ ha
  refine wpAny_setItem_pairs (strKind_is prog w k t) hd (fun h' hd' hs' => ?_) (by rw [KR.len e]; exact Nat.le_trans hz (by decide))
  obtain ⟨o, es, ep, ho, _, hdd, _⟩ := hd
  have tk : TK s.heap h' := tk_of_same hs' ho (NT_dict hdd)
  obtain ⟨p1, p2⟩ := KR.put (k := k) (rv.mono tk) e (r.mono tk)
  exact q _ (S.change ha hs' (.dictS (kset kvs k V)) _ ⟨z, _, hd', p1, p2⟩) (Go.change S ha hs' _ _)
theorem tupKey {h : Heap} {ks : List Int} {v : Value} (r : VR h v (.tup (ks.map V.int))) : ∃ a, v = .ref a ∧ IsTupleKey (intKind prog w) h ks a := by
  cases r with
  | @tup a items _ ht hv =>
    obtain ⟨o, ho, hc, n, hd⟩ := ht
    refine ⟨a, rfl, o, items, n, ho, hc, hd, ?_⟩
    generalize items.toList = l at hv
    clear ho hc hd
    induction ks generalizing l with
    | nil => cases hv; exact .nil
    | cons k ks ih => cases hv with | cons ra rb => cases ra with | int _ t => exact .cons (intKind_is prog w k t) (ih _ rb)
theorem setT {a : Addr} {kvs : List (List Int × V)} {k : List Int} {kv : Value} {v : Value} {x : RH.V} {s : Shared} {P : Unit → Shared → Prop} {E : Value → Shared → Prop} (hu : c.A.units + 1 < cLine) (S : Sim prog c ρ σ s) (ha : σ a = some (.dictT kvs)) (hz : kvs.length ≤ 1000000)
    (rk : VR s.heap kv (.tup (k.map V.int))) (rv : VR s.heap v x)
    (q : ∀ s', Sim prog c ρ (upd σ a (.dictT (kset kvs k x))) s' → Go c.L σ s (upd σ a (.dictT (kset kvs k x))) s' → P () s') : wpAny (model prog w) c.A (setItem (.ref a) kv v) P E s := by
  obtain ⟨_, _, z, xs, hd, e, r⟩ := S.obj _ _ ha
  obtain ⟨ka, rfl, hk⟩ := tupKey (prog := prog) (w := w) rk
  have e' : (xs.map fun p => (p.1, p.2.2)).map (·.1) = kvs.map (·.1) := by rw [List.map_map]; exact e
  have r' : VRs s.heap ((xs.map fun p => (p.1, p.2.2)).map (·.2)) (kvs.map (·.2)) := by rw [List.map_map]; exact r
  refine wpAny_setItem_heap (knd := tupleKind (intKind prog w)) (tupleKind_room_in1 hu) hk hd (fun h' hd' hs' => ?_) (by have := KR.len e'; rw [List.length_map] at this; rw [this]; exact Nat.le_trans hz (by decide))
  obtain ⟨o, es, ep, ho, _, hdd, _⟩ := hd
  have tk : TK s.heap h' := tk_of_same hs' ho (NT_dict hdd)
  obtain ⟨p1, p2⟩ := KR.put (k := k) (rv.mono tk) e' (r'.mono tk)
  rw [← KRH.put _ _ ka, List.map_map] at p1 p2
  exact q _ (S.change ha hs' (.dictT (kset kvs k x)) _ ⟨z, _, hd', p1, p2⟩) (Go.change S ha hs' _ _)

/-- o[i] = value -/
inductive SetOk (c : Cx w K) (σ : St) : V → V → V → Addr → AO → Prop
  | i {a : Addr} {kvs : List (Int × V)} {k : Int} {x : V} : σ a = some (.dictI kvs) → kvs.length ≤ 1000000 → SetOk c σ (.loc a) (.int k) x a (.dictI (kset kvs k x))
  | s {a : Addr} {kvs : List (Str × V)} {k : Str} {x : V} : σ a = some (.dictS kvs) → kvs.length ≤ 1000000 → SetOk c σ (.loc a) (.str k) x a (.dictS (kset kvs k x))
  | t {a : Addr} {kvs : List (List Int × V)} {k : List Int} {x : V} : c.A.units + 1 < cLine → σ a = some (.dictT kvs) → kvs.length ≤ 1000000 → SetOk c σ (.loc a) (.tup (k.map V.int)) x a (.dictT (kset kvs k x))
theorem EX_Set {o i value : PySem.Expr} {pos' pos : Pos} {Q : Fl → Loc → St → Prop} (hs : swapsWith value (some (.Subscript o i pos')) pos.line env = pure false)
    (h : EV prog c (eval value env) ρ σ fun x σ₁ => EV prog c (eval o env) ρ σ₁ fun X σ₂ => EV prog c (eval i env) ρ σ₂ fun I σ₃ => ∃ a ao, SetOk c σ₃ X I x a ao ∧ Q .next ρ (upd σ₃ a ao)) :
    EX prog c (exec (.Assign [.Subscript o i pos'] value pos) env) ρ σ Q := fun s S =>
  wpAny_Assign_Subscript (h.run S fun v s₁ x σ₁ rv S₁ g₁ h₁ => h₁.run S₁ fun ov s₂ X σ₂ rX S₂ g₂ h₂ => h₂.run S₂ fun iv s₃ I σ₃ rI S₃ g₃ ⟨a, ao, hk, q⟩ => by
    replace rv := (rv.mono g₂.tk).mono g₃.tk
    replace rX := rX.mono g₃.tk
    cases hk with
    | i ha hz => cases rX; cases rI; exact setI S₃ ha hz rv fun s' S' g' => ⟨.next, ρ, _, trivial, S', ((g₁.trans g₂).trans g₃).trans g', q⟩
    | s ha hz => cases rX; cases rI; exact setS S₃ ha hz rv fun s' S' g' => ⟨.next, ρ, _, trivial, S', ((g₁.trans g₂).trans g₃).trans g', q⟩
    | t hu ha hz => cases rX; exact setT hu S₃ ha hz rI rv fun s' S' g' => ⟨.next, ρ, _, trivial, S', ((g₁.trans g₂).trans g₃).trans g', q⟩) hs

theorem OP_getS {a : Addr} {kvs : List (Str × V)} {k : Str} {x : V} (ha : σ a = some (.dictS kvs)) (h : Q ((kget kvs k).getD x) σ) : OPn prog c (fun vs => call (.builtin "dict.get") vs) [.loc a, .str k, x] ρ σ Q := fun s us S rs => by
  cases rs with | cons r rs => cases rs with | cons r₂ rs => cases rs with | cons r₃ rs =>
  cases rs; cases r; cases r₂ with | str _ t =>
  obtain ⟨_, _, z, kv, hd, e, r⟩ := S.obj _ _ ha
  have key := KR.at e r k
  refine call_meetsIn F.slot_dict_get hd.typeIs F.entry_dict_get (F.args_dict_get_3 _ _ _) (meets_dict_get_default _ _ (strKind_is prog w k t) z _) ⟨_, hd.mapOf, ?_⟩
  refine ⟨_, σ, ?_, S.toks _, Go.toks _ _ _, h⟩
  revert key
  cases valueAt kv k <;> cases kget kvs k <;> intro key
  · exact r₃
  · exact key.elim
  · exact key.elim
  · exact key
theorem OP_getT {a : Addr} {kvs : List (List Int × V)} {k : List Int} {x : V} (hu : c.A.units + 1 < cLine) (ha : σ a = some (.dictT kvs)) (h : Q ((kget kvs k).getD x) σ) : OPn prog c (fun vs => call (.builtin "dict.get") vs) [.loc a, .tup (k.map V.int), x] ρ σ Q := fun s us S rs => by
  cases rs with | cons r rs => cases rs with | cons r₂ rs => cases rs with | cons r₃ rs =>
  cases rs; cases r
  obtain ⟨ka, rfl, hk⟩ := tupKey (prog := prog) (w := w) r₂
  obtain ⟨_, _, z, xs, hd, e, r⟩ := S.obj _ _ ha
  have e' : (xs.map fun p => (p.1, p.2.2)).map (·.1) = kvs.map (·.1) := by rw [List.map_map]; exact e
  have r' : VRs s.heap ((xs.map fun p => (p.1, p.2.2)).map (·.2)) (kvs.map (·.2)) := by rw [List.map_map]; exact r
  have key := KR.at e' r' k
  rw [← KRH.at] at key
  refine call_meetsIn F.slot_dict_get hd.typeIs F.entry_dict_get (F.args_dict_get_3 _ _ _) (meetsH_dict_get_default (tupleKind (intKind prog w)) _ _ z _) ⟨tupleKind_room_in1 hu, k, xs, hk, hd, ?_⟩
  refine ⟨_, σ, ?_, S.toks _, Go.toks _ _ _, h⟩
  revert key
  cases (atKey xs k).map (·.2) <;> cases kget kvs k <;> intro key
  · exact r₃
  · exact key.elim
  · exact key.elim
  · exact key
end
end RH
set_option Elab.async false
set_option maxRecDepth 10000
set_option linter.all false
namespace RH
open PySem PySem.W PySem.Calls PyProof.Rows PySem.SeqAt

section
variable {prog : Program} {w : World} {K : Frag} {c : Cx w K} {ρ : Loc} {σ : St} {env : Env} {Q : V → St → Prop}

/-! new tables -/
theorem Sim.notMods {s : Shared} (S : Sim prog c ρ σ s) : (s.heap.objs.size == sysModules) = false := by
  obtain ⟨m, F⟩ := S.fr
  obtain ⟨o, es, ep, ho, _⟩ := c.T.g
  have h : 3 < s.heap.objs.size := Heap.lt_size (F.keep _ _ ho)
  rw [beq_eq_false_iff_ne]
  intro e
  have e' : s.heap.objs.size = 1 := e
  omega
theorem EV_DictI {pos : Pos} (h : ∀ a, σ a = none → Q (.loc a) (upd σ a (.dictI []))) : EV prog c (eval (.Dict [] [] pos) env) ρ σ Q := fun s S =>
  wpAny_Dict_empty ⟨_, _, .loc _, S.pushO _ (.dictI []) s.toks ⟨S.notMods, [], Heap.DictOf.new _, rfl, .nil⟩, Go.pushO S _ _ _, h _ S.freshAt⟩
theorem EV_DictS {pos : Pos} (h : ∀ a, σ a = none → Q (.loc a) (upd σ a (.dictS []))) : EV prog c (eval (.Dict [] [] pos) env) ρ σ Q := fun s S =>
  wpAny_Dict_empty ⟨_, _, .loc _, S.pushO _ (.dictS []) s.toks ⟨S.notMods, [], Heap.DictOf.new _, rfl, .nil⟩, Go.pushO S _ _ _, h _ S.freshAt⟩
theorem EV_DictT {pos : Pos} (h : ∀ a, σ a = none → Q (.loc a) (upd σ a (.dictT []))) : EV prog c (eval (.Dict [] [] pos) env) ρ σ Q := fun s S =>
  wpAny_Dict_empty ⟨_, _, .loc _, S.pushO _ (.dictT []) s.toks ⟨S.notMods, [], Heap.DictOfH.new _, rfl, .nil⟩, Go.pushO S _ _ _, h _ S.freshAt⟩

/-! lists from lists -/
theorem Sim.made {s : Shared} (S : Sim prog c ρ σ s) {h' : Heap} (tk : Nat) {ao : AO} (k : ∀ b o, s.heap.get? b = some o → h'.get? b = some o) (r : TK s.heap h' → OR prog w h' s.heap.objs.size ao) :
    Sim prog c ρ (upd σ s.heap.objs.size ao) { s with heap := h', toks := tk } ∧ Go c.L σ s (upd σ s.heap.objs.size ao) { s with heap := h', toks := tk } := by
  have S1 := S.ext tk k
  have t := tk_of_ext k
  have fr := S.freshAt
  have nl : ∀ {x : Obj}, ¬ s.heap.get? s.heap.objs.size = some x := fun e => absurd (Heap.lt_size e) (Nat.lt_irrefl _)
  refine ⟨⟨S1.loc, fun a o e => ?_⟩, ⟨⟨_, _, rfl⟩, fun b o _ _ e => k b o e, t, fun b h0 h1 => ?_⟩⟩
  · unfold upd at e
    split at e
    · rename_i z
      cases e; subst z
      exact ⟨S.sizeNe, S.size₀, r t⟩
    · exact S1.obj a o e
  · unfold upd at h1
    split at h1
    · rename_i z
      subst z
      refine ⟨S.sizeNe, ?_⟩
      cases q : s.heap.get? s.heap.objs.size with
      | none => rfl
      | some x => exact absurd q nl
    · exact absurd h0 h1
theorem OP_list_list {a : Addr} {vs : List V} (ha : σ a = some (.list vs)) (hz : vs.length ≤ 1000000) (h : ∀ d, σ d = none → Q (.loc d) (upd σ d (.list vs))) : OPn prog c (fun vs => call (.type "list") vs) [.loc a] ρ σ Q := fun s us S rs => by
  cases rs with | cons r rs =>
  cases rs; cases r
  obtain ⟨_, _, items, ⟨n, hn⟩, hv⟩ := S.obj _ _ ha
  refine call_list_seq a (.inl rfl) hn rfl rfl (fun h' c' k hnew => ?_) (by rw [len_items hv]; exact Nat.le_trans hz (by decide))
  obtain ⟨S', g'⟩ := S.made s.toks (ao := .list vs) k fun t => ⟨items, ⟨c', hnew⟩, hv.mono t⟩
  exact ⟨_, _, .loc _, S', g', h _ S.freshAt⟩
theorem OP_list_tup {vs : List V} (hz : vs.length ≤ 1000000) (h : ∀ d, σ d = none → Q (.loc d) (upd σ d (.list vs))) : OPn prog c (fun vs => call (.type "list") vs) [.tup vs] ρ σ Q := fun s us S rs => by
  cases rs with | cons r rs =>
  cases rs; cases r with | @tup a items _ ht hv =>
  obtain ⟨o, hn, hc, n, hd⟩ := id ht
  refine call_list_seq a (.inr rfl) hn hc hd (fun h' c' k hnew => ?_) (by rw [len_items hv]; exact Nat.le_trans hz (by decide))
  obtain ⟨S', g'⟩ := S.made s.toks (ao := .list vs) k fun t => ⟨items, ⟨c', hnew⟩, hv.mono t⟩
  exact ⟨_, _, .loc _, S', g', h _ S.freshAt⟩
theorem OP_addL {a b : Addr} {xs ys : List V} (ha : σ a = some (.list xs)) (hb : σ b = some (.list ys)) (hz : xs.length + ys.length ≤ 1000000) (h : ∀ d, σ d = none → Q (.loc d) (upd σ d (.list (xs ++ ys)))) :
    OP2 prog c (binaryOp .Add) (.loc a) (.loc b) ρ σ Q := fun s v u S r₁ r₂ => by
  cases r₁; cases r₂
  obtain ⟨_, _, i1, ⟨n1, p1⟩, v1⟩ := S.obj _ _ ha
  obtain ⟨_, _, i2, ⟨n2, p2⟩, v2⟩ := S.obj _ _ hb
  refine concat_meets ⟨_, p1, rfl⟩ ⟨_, p2, rfl⟩ noFill_list_add seq_list_add PySem.F.slot_list_add PySem.F.entry_list_add (PySem.F.args_list_add_2 _ _) (list_addW a b i1 i2 n1 n2 none none #[] #[] (by rw [len_items v1, len_items v2]; exact Nat.le_trans hz (by decide))) ⟨p1, p2, ?_⟩
  exact ⟨_, _, .loc _, S.pushO _ (.list (xs ++ ys)) s.toks ⟨i1 ++ i2, ⟨0, Heap.get?_push_size _ rfl⟩, by simpa using (v1.append v2).mono (TK.push _ _)⟩, Go.pushO S _ _ _, h _ S.freshAt⟩
theorem EV_Upto {value e : PySem.Expr} {p pos : Pos} (ht : ∀ o r, letTemporaryGo value o r = pure ())
    (h : EV prog c (eval value env) ρ σ fun X σ₁ => EV prog c (eval e env) ρ σ₁ fun I σ₂ => ∃ a vs k, X = .loc a ∧ σ₂ a = some (.list vs) ∧ vs.length ≤ 1000000 ∧ I = .int k ∧ 0 ≤ k ∧ ∀ d, σ₂ d = none → Q (.loc d) (upd σ₂ d (.list (vs.take k.toNat)))) :
    EV prog c (eval (.Subscript value (.Slice none (some e) none p) pos) env) ρ σ Q := fun s S => by
  refine wpAny_Subscript_list_slice (h.run S fun o s₁ X σ₁ rX S₁ g₁ h₁ => ?_) ht
  rw [evalPart_none, evalPart_some]
  refine wpAny_pure (h₁.run S₁ fun i s₂ I σ₂ rI S₂ g₂ ⟨a, vs, k, ex, ha, hz, ek, hk, q⟩ => ?_)
  subst ex; subst ek
  cases rX; cases rI with | int _ t =>
  obtain ⟨_, _, items, pl, hv⟩ := S₂.obj _ _ ha
  refine ⟨a, items, _, _, rfl, pl.isList, by rw [len_items hv]; exact Nat.le_trans hz (by decide), .none, .int k t, ?_⟩
  have e : sliceBounds none (some k) none items.size = (((0 : Nat) : Int), ((min k.toNat items.size : Nat) : Int), 1) := by
    simp only [sliceBounds, Option.getD_none, show (1 : Int) > 0 by decide, if_true, if_neg (show ¬ (k < 0) by omega)]
    congr 1
    congr 1
    omega
  rw [kmk_pick_nat _ e]
  have et : ((items.toList.drop 0).take (min k.toNat items.size - 0)) = items.toList.take k.toNat := by
    rw [List.drop_zero, Nat.sub_zero]
    conv => lhs; rw [← Array.length_toList]
    exact kmk_take_min _ _
  rw [et]
  have S3 := S₂.pushT { cls := .type "slice", data := .fields #[.none, .int k t, .none] } s₂.toks
  have hsz : (s₂.heap.push { cls := .type "slice", data := .fields #[.none, .int k t, .none] }).objs.size = s₂.heap.objs.size + 1 := by simp [Heap.push]
  have S4 := S3.pushO { cls := .type "list", data := .seq (items.toList.take k.toNat).toArray } (.list (vs.take k.toNat)) s₂.toks ⟨(items.toList.take k.toNat).toArray, ⟨0, Heap.get?_push_size _ rfl⟩, by simpa using ((hv.take k.toNat).mono (TK.push _ _)).mono (TK.push _ _)⟩
  have g4 := Go.pushO S3 { cls := .type "list", data := .seq (items.toList.take k.toNat).toArray } (.list (vs.take k.toNat)) s₂.toks
  have fr := S3.freshAt
  simp only at S4 g4 fr
  rw [hsz] at S4 g4 fr
  exact ⟨_, _, .loc _, S4, ((g₁.trans g₂).trans (Go.pushT _ _ _ _)).trans g4, q _ fr⟩

/-! data -/
mutual
inductive VD (σ : St) : V → PyData → Prop
  | none : VD σ .none .none
  | bool (b : Bool) : VD σ (.bool b) (.bool b)
  | int (i : Int) : VD σ (.int i) (.int i)
  | str (x : Str) : VD σ (.str x) (.str x)
  | tup {vs : List V} {ds : List PyData} : VDs σ vs ds → VD σ (.tup vs) (.tuple ds)
  | loc {a : Addr} {vs : List V} {ds : List PyData} : σ a = some (.list vs) → VDs σ vs ds → VD σ (.loc a) (.list ds)
inductive VDs (σ : St) : List V → List PyData → Prop
  | nil : VDs σ [] []
  | cons {v : V} {d : PyData} {vs : List V} {ds : List PyData} : VD σ v d → VDs σ vs ds → VDs σ (v :: vs) (d :: ds)
end
mutual
theorem VD.reads {s : Shared} (S : Sim prog c ρ σ s) {x : V} {d : PyData} (r : VD σ x d) {v : Value} (rv : VR s.heap v x) : ∃ as, Reads s.heap v d as := by
  cases r with
  | none => cases rv; exact ⟨_, .none⟩
  | bool b => cases rv; exact ⟨_, .bool b⟩
  | int i => cases rv; exact ⟨_, .int _ _⟩
  | str i => cases rv; exact ⟨_, .str _ _⟩
  | tup rs =>
    cases rv with
    | tup ht hv =>
      obtain ⟨o, ho, hc, n, hd⟩ := ht
      obtain ⟨as, h⟩ := VDs.reads S rs hv
      exact ⟨_, .tuple ho hc hd h⟩
  | loc hl rs =>
    cases rv
    obtain ⟨_, _, items, ⟨n, hn⟩, hv⟩ := S.obj _ _ hl
    obtain ⟨as, h⟩ := VDs.reads S rs hv
    exact ⟨_, .list hn rfl rfl h⟩
theorem VDs.reads {s : Shared} (S : Sim prog c ρ σ s) {x : List V} {d : List PyData} (r : VDs σ x d) {v : List Value} (rv : VRs s.heap v x) : ∃ as, ReadsAll s.heap v d as := by
  cases r with
  | nil => cases rv; exact ⟨_, .nil⟩
  | cons a b =>
    cases rv with
    | cons c d =>
      obtain ⟨_, h1⟩ := VD.reads S a c
      obtain ⟨_, h2⟩ := VDs.reads S b d
      exact ⟨_, .cons h1 h2⟩
end
/-- comparable -/
def okD (d : PyData) : Bool := d.canLay0 && decide (d.depth ≤ 1000)
theorem okD.lay {d : PyData} (h : okD d = true) : d.canLay0 = true := (Bool.and_eq_true_iff.mp h).1
theorem okD.dep {d : PyData} (h : okD d = true) : d.depth ≤ 1000 := by simpa using (Bool.and_eq_true_iff.mp h).2
theorem Cx.roomy (c : Cx w K) (hd : 100 ≤ c.d) : c.A.units + 1002 < cLine := by
  have := c.un
  have h : cLine = 9900 := rfl
  rw [h]; omega
theorem OP_eqD {x y : V} {dx dy : PyData} (hd : 100 ≤ c.d) (rx : VD σ x dx) (ry : VD σ y dy) (hx : okD dx = true) (hy : okD dy = true) (h : Q (.bool (PyData.eqv dx dy)) σ) : OP2 prog c (compareOp .Eq) x y ρ σ Q := fun s v u S r₁ r₂ => by
  obtain ⟨as, ra⟩ := rx.reads S r₁
  obtain ⟨bs, rb⟩ := ry.reads S r₂
  have := c.roomy hd
  exact compareEq_reads ra rb (okD.lay hx) (okD.lay hy) (by have := okD.dep hx; omega) ⟨_, σ, .bool _, S, Go.refl _ _ _, h⟩
theorem OP_neD {x y : V} {dx dy : PyData} (hd : 100 ≤ c.d) (rx : VD σ x dx) (ry : VD σ y dy) (hx : okD dx = true) (hy : okD dy = true) (h : Q (.bool (!PyData.eqv dx dy)) σ) : OP2 prog c (compareOp .NotEq) x y ρ σ Q := fun s v u S r₁ r₂ => by
  obtain ⟨as, ra⟩ := rx.reads S r₁
  obtain ⟨bs, rb⟩ := ry.reads S r₂
  have := c.roomy hd
  exact compareNe_reads ra rb (okD.lay hx) (okD.lay hy) (by have := okD.dep hx; omega) ⟨_, σ, .bool _, S, Go.refl _ _ _, h⟩
theorem OP_inD {x : V} {a : Addr} {ys : List V} {dx : PyData} {dys : List PyData} (hd : 100 ≤ c.d) (rx : VD σ x dx) (ha : σ a = some (.list ys)) (ry : VDs σ ys dys) (hx : okD dx = true) (hy : PyData.canLayAll0 dys = true) (h : Q (.bool (dys.any fun y => PyData.eqv y dx)) σ) :
    OP2 prog c (compareOp .In) x (.loc a) ρ σ Q := fun s v u S r₁ r₂ => by
  obtain ⟨as, ra⟩ := rx.reads S r₁
  obtain ⟨bs, rb⟩ := (VD.loc ha ry).reads S r₂
  have := c.roomy hd
  exact in_list_reads rb ra hy (okD.lay hx) (by have := okD.dep hx; omega) ⟨_, σ, .bool _, S, Go.refl _ _ _, h⟩
theorem OP_notInD {x : V} {a : Addr} {ys : List V} {dx : PyData} {dys : List PyData} (hd : 100 ≤ c.d) (rx : VD σ x dx) (ha : σ a = some (.list ys)) (ry : VDs σ ys dys) (hx : okD dx = true) (hy : PyData.canLayAll0 dys = true) (h : Q (.bool (!dys.any fun y => PyData.eqv y dx)) σ) :
    OP2 prog c (compareOp .NotIn) x (.loc a) ρ σ Q := fun s v u S r₁ r₂ => by
  obtain ⟨as, ra⟩ := rx.reads S r₁
  obtain ⟨bs, rb⟩ := (VD.loc ha ry).reads S r₂
  have := c.roomy hd
  exact notIn_list_reads rb ra hy (okD.lay hx) (by have := okD.dep hx; omega) ⟨_, σ, .bool _, S, Go.refl _ _ _, h⟩
theorem OP_inT {x : V} {ys : List V} {dx : PyData} {dys : List PyData} (hd : 100 ≤ c.d) (rx : VD σ x dx) (ry : VDs σ ys dys) (hx : okD dx = true) (hy : PyData.canLayAll0 dys = true) (h : Q (.bool (dys.any fun y => PyData.eqv y dx)) σ) :
    OP2 prog c (compareOp .In) x (.tup ys) ρ σ Q := fun s v u S r₁ r₂ => by
  obtain ⟨as, ra⟩ := rx.reads S r₁
  obtain ⟨bs, rb⟩ := (VD.tup ry).reads S r₂
  have := c.roomy hd
  exact in_tuple_reads rb ra hy (okD.lay hx) (by have := okD.dep hx; omega) ⟨_, σ, .bool _, S, Go.refl _ _ _, h⟩
theorem OP_isNone {x : V} (hx : x ≠ .none) (h : Q (.bool false) σ) : OP2 prog c (compareOp .Is) x .none ρ σ Q := fun s v u S r₁ r₂ => by
  cases r₂
  refine wpAny_is_other ?_ ?_ ⟨_, σ, .bool _, S, Go.refl _ _ _, h⟩
  · cases r₁ <;> rfl
  · cases r₁ with
    | none => exact absurd rfl hx
    | _ => intro e; cases e
theorem OP_isNone0 (h : Q (.bool true) σ) : OP2 prog c (compareOp .Is) .none .none ρ σ Q := fun s v u S r₁ r₂ => by
  cases r₁; cases r₂
  exact wpAny_is_self rfl ⟨_, σ, .bool _, S, Go.refl _ _ _, h⟩

/-- the place of a value in a list -/
theorem OP_index {x : V} {a : Addr} {ys : List V} {dx : PyData} {dys : List PyData} {j : Nat} (hd : 100 ≤ c.d) (rx : VD σ x dx) (ha : σ a = some (.list ys)) (ry : VDs σ ys dys) (hx : okD dx = true) (hy : PyData.canLayAll0 dys = true) (hz : ys.length ≤ 1000000)
    (hj : ∃ d, dys[j]? = some d ∧ PyData.eqv d dx = true) (hno : ∀ i d, i < j → dys[i]? = some d → PyData.eqv d dx = false) (h : Q (.int j) σ) :
    OPn prog c (fun vs => call (.builtin "list.index") vs) [.loc a, x] ρ σ Q := fun s us S rs => by
  cases rs with | cons r rs => cases rs with | cons r₂ rs =>
  cases rs; cases r
  obtain ⟨as, ra⟩ := rx.reads S r₂
  obtain ⟨_, _, items, ⟨n, hn⟩, hv⟩ := S.obj _ _ ha
  obtain ⟨bs, rb⟩ := ry.reads S hv
  have hmap := readsAll_map dys items.toList bs hy rb
  have hu := c.roomy hd
  have hsz := len_items hv
  have hget : ∀ i (hi : i < items.size), dys[i]? = some (readOf s.heap items[i]) := fun i hi => by
    rw [← hmap, List.getElem?_map]
    simp [hi]
  obtain ⟨dj, hdj, hej⟩ := hj
  have hjlt : j < items.size := by
    have := (List.getElem?_eq_some_iff.mp hdj).1
    rw [← hmap] at this
    simpa using this
  refine call_meetsIn F.slot_list_index ⟨_, hn, rfl⟩ F.entry_list_index (F.args_list_index_2 _ _)
    (Meets.inModel (SeqAt.list_indexAt a items n none #[] _ (fun y => PyData.eqv (readOf s.heap y) dx) j hjlt (by omega) ?_ ?_) prog w) ⟨hn, items_eqAt rb ra hy (okD.lay hx) (by have := okD.dep hx; omega), ?_⟩
  · have := hget j hjlt
    rw [hdj] at this
    cases this; exact hej
  · exact fun m hm hmj => hno m _ hmj (hget m hm)
  · exact ⟨_, σ, .int _ _, S.toks _, Go.toks _ _ _, h⟩
end
end RH
set_option Elab.async false
set_option maxRecDepth 10000
set_option linter.all false
namespace RH
open PySem PySem.W PySem.Calls PyProof.Rows

/-! what is kept -/
def Keep (S : List Addr) (σ σ' : St) : Prop := ∀ b o, σ b = some o → b ∉ S → σ' b = some o
theorem Keep.refl (S : List Addr) (σ : St) : Keep S σ σ := fun _ _ e _ => e
theorem Keep.trans {S : List Addr} {σ σ' σ'' : St} (x : Keep S σ σ') (y : Keep S σ' σ'') : Keep S σ σ'' := fun b o e n => y b o (x b o e n) n
theorem Keep.wide {S S' : List Addr} {σ σ' : St} (x : Keep S σ σ') (h : ∀ a ∈ S, a ∈ S') : Keep S' σ σ' := fun b o e n => x b o e fun m => n (h b m)
theorem Keep.updIn {S : List Addr} {σ σ' : St} {a : Addr} (x : Keep S σ σ') (h : a ∈ S) (o : AO) : Keep S σ (upd σ' a o) := fun b ob e n => (upd_ne fun z => by subst z; exact n h).trans (x b ob e n)
theorem Keep.updNew {S : List Addr} {σ σ' : St} {a : Addr} (x : Keep S σ σ') (h : σ' a = none) (o : AO) : Keep S σ (upd σ' a o) := fun b ob e n => by
  have := x b ob e n
  exact (upd_ne fun z => by subst z; rw [h] at this; cases this).trans this
theorem Keep.drop {S : List Addr} {σ σ' : St} {a : Addr} (x : Keep (a :: S) σ σ') (h : σ a = none) : Keep S σ σ' := fun b ob e n => x b ob e fun m => by
  rcases List.mem_cons.mp m with z | m
  · subst z; rw [h] at e; cases e
  · exact n m
theorem Keep.none {S : List Addr} {σ σ' : St} {a : Addr} (x : Keep S σ σ') (h : σ' a = .none) (n : a ∉ S) : σ a = .none := by
  cases q : σ a with
  | none => rfl
  | some o => have := x a o q n; rw [h] at this; cases this
theorem neF {σ : St} {a b : Addr} {o : AO} (ha : σ a = some o) (hb : σ b = none) : a ≠ b := fun z => by subst z; rw [ha] at hb; cases hb
theorem neF' {σ : St} {a b : Addr} {o : AO} (ha : σ a = some o) (hb : σ b = none) : b ≠ a := fun z => by subst z; rw [ha] at hb; cases hb

theorem all0 {α : Type} {P : List α → Prop} (h : P []) : ∀ vs : List α, vs.length = 0 → P vs
  | [], _ => h
theorem all1 {α : Type} {P : List α → Prop} (h : ∀ a, P [a]) : ∀ vs : List α, vs.length = 1 → P vs
  | [a], _ => h a
theorem all2 {α : Type} {P : List α → Prop} (h : ∀ a b, P [a, b]) : ∀ vs : List α, vs.length = 2 → P vs
  | [a, b], _ => h a b
theorem all3 {α : Type} {P : List α → Prop} (h : ∀ a b c, P [a, b, c]) : ∀ vs : List α, vs.length = 3 → P vs
  | [a, b, c], _ => h a b c
theorem all4 {α : Type} {P : List α → Prop} (h : ∀ a b c d, P [a, b, c, d]) : ∀ vs : List α, vs.length = 4 → P vs
  | [a, b, c, d], _ => h a b c d
theorem all5 {α : Type} {P : List α → Prop} (h : ∀ a b c d e, P [a, b, c, d, e]) : ∀ vs : List α, vs.length = 5 → P vs
  | [a, b, c, d, e], _ => h a b c d e

section
variable {prog : Program} {w : World} {K : Frag} {c : Cx w K} {ρ : Loc} {σ : St} {env : Env} {Q : V → St → Prop}

theorem CF_K {names : List Str} {args : List V} {name qual : Str} {params : Arguments} {body : List Stmt} {scope : Scope} {dV kV doc pm cdv ct : Value} {an : Option Addr} {f : Addr} {fo : Obj} {d : Nat} (hl : K.lookup f = some fo) (hd : d + 1 = c.d)
    (hfd : fo.data = .func (fnX name qual params body scope [] dV kV doc pm an cdv ct)) (hcr : codeIn K cdv qual = true)
    (hbind : ∀ vs : List Value, vs.length = args.length → bindArgs (fnX name qual params body scope [] dV kV doc pm an cdv ct) ⟨vs, []⟩ = pure (names.zip vs))
    (hlen : names.length = args.length) (hnd : names.Nodup) (hloc : ∀ x ∈ names, scope.names.lookup x = some .local) (hcell : ∀ x ∈ scope.names, x.2 ≠ .cell)
    (hco : scope.isCoroutine = false) (hgen : scope.isGenerator = false) (hk : scope.kind = .function)
    (h : ∀ c' : Cx w K, c'.d = d → EnvOk c' (envX qual scope c'.L f cdv []) → EX prog c' (execs body (envX qual scope c'.L f cdv [])) (names.zip args) σ (fun fl _ σ' => Q (retV fl) σ')) :
    CF prog c f args ρ σ Q :=
  CF_fn hd (fun s S => ⟨⟨fo, S.inK f fo hl, hfd⟩, codeRec_of S.inK hcr⟩) (fun s vs S hv => BindsTo.of_eq (hbind vs hv)) hlen hnd hloc hcell hco hgen hk h

/-- a global function, called -/
theorem EV_fcall {x : Str} {np pos : Pos} {f : Addr} {e : PySem.Expr} {rest : List PySem.Expr} (he : EnvOk c env) (hk : env.kindOf x = some .globalImplicit) (hd : (x == ("__debug__" : Str)) = false) (hn : nsIn K mainGlobals x = some (some (.ref f)))
    (hc : eval (.Call (.Name x np) (e :: rest) [] pos) env = (do callWith pos (← eval (.Name x np) env) [] (backTo pos (starEach (e :: rest) env)) (backToKw pos (keywordEach [] env))))
    (hs : starEach (e :: rest) env = (false, eval e env) :: starEach rest env) (hplain : (backTo pos (starEach rest env)).any (·.1) = false) (hkp : keepIn K (.ref f) = true)
    (h : EVs prog c (spliced (backTo pos (starEach (e :: rest) env))) ρ σ fun xs σ₁ => CF prog c f xs ρ σ₁ Q) :
    EV prog c (eval (.Call (.Name x np) (e :: rest) [] pos) env) ρ σ Q :=
  EV_call hc hs hplain (EV_globRef he hk hd hn ⟨f, rfl, fun s S => h.run S fun vs s' xs σ' a b g q => ⟨xs, σ', a, b, g, .inl hkp, q⟩⟩)
theorem EV_fcall0 {x : Str} {np pos : Pos} {f : Addr} (he : EnvOk c env) (hk : env.kindOf x = some .globalImplicit) (hd : (x == ("__debug__" : Str)) = false) (hn : nsIn K mainGlobals x = some (some (.ref f)))
    (hc : eval (.Call (.Name x np) [] [] pos) env = (do callWith pos (← eval (.Name x np) env) [] (backTo pos (starEach [] env)) (backToKw pos (keywordEach [] env))))
    (hkp : keepIn K (.ref f) = true) (h : CF prog c f [] ρ σ Q) :
    EV prog c (eval (.Call (.Name x np) [] [] pos) env) ρ σ Q :=
  EV_call0 hc (EV_globRef he hk hd hn ⟨f, rfl, .inl hkp, h⟩)

theorem EV_pop {o : PySem.Expr} {apos pos : Pos} (hbase : attributeBase o "pop" env (eval o env) = eval o env) (hline : (apos.endLine == pos.line) = true)
    (h : EV prog c (eval o env) ρ σ fun X σ₁ => ∃ a ys y, X = .loc a ∧ σ₁ a = some (.list (ys ++ [y])) ∧ ys.length ≤ 1000000 ∧ Q y (upd σ₁ a (.list ys))) :
    EV prog c (eval (.Call (.Attribute o "pop" apos) [] [] pos) env) ρ σ Q :=
  EV_bmeth0 hbase hline F.plainAttrs_list F.slot_list_pop F.type_list_pop (fun s S => h.run S fun v s' X σ' r S' g ⟨a, ys, y, e, ha, hz, q⟩ => ⟨X, σ', r, S', g, a, e, isListT ha, OP_pop ha hz q⟩)
theorem EV_reverse {o : PySem.Expr} {apos pos : Pos} (hbase : attributeBase o "reverse" env (eval o env) = eval o env) (hline : (apos.endLine == pos.line) = true)
    (h : EV prog c (eval o env) ρ σ fun X σ₁ => ∃ a ys, X = .loc a ∧ σ₁ a = some (.list ys) ∧ ys.length ≤ 1000000 ∧ Q .none (upd σ₁ a (.list ys.reverse))) :
    EV prog c (eval (.Call (.Attribute o "reverse" apos) [] [] pos) env) ρ σ Q :=
  EV_bmeth0 hbase hline F.plainAttrs_list F.slot_list_reverse F.type_list_reverse (fun s S => h.run S fun v s' X σ' r S' g ⟨a, ys, e, ha, hz, q⟩ => ⟨X, σ', r, S', g, a, e, isListT ha, OP_reverse ha hz q⟩)
theorem EV_append {o e : PySem.Expr} {apos pos : Pos} (hbase : attributeBase o "append" env (eval o env) = eval o env) (hline : (apos.endLine == pos.line) = true)
    (hfew : ((backTo pos (starEach [e] env)).all (fun x => !x.1) && (backToKw pos (keywordEach [] env)).all (fun x => x.1.isSome) && decide ([e].length + ([] : List Keyword).length + (if ([] : List Keyword).isEmpty then 0 else 1) < 30)) = true)
    (hs : starEach [e] env = (false, eval e env) :: starEach [] env) (hplain : (backTo pos (starEach [] env)).any (·.1) = false)
    (h : EV prog c (eval o env) ρ σ fun X σ₁ => ∃ a, X = .loc a ∧ (∃ ys, σ₁ a = some (.list ys)) ∧ EV prog c (eval e env) ρ σ₁ fun y σ₂ => ∃ ys, σ₂ a = some (.list ys) ∧ ys.length ≤ 1000000 ∧ Q .none (upd σ₂ a (.list (ys ++ [y])))) :
    EV prog c (eval (.Call (.Attribute o "append" apos) [e] [] pos) env) ρ σ Q :=
  EV_bmeth hbase hfew hline F.plainAttrs_list F.slot_list_append F.type_list_append hs hplain (fun s S => h.run S fun v s' X σ' r S' g ⟨a, ex, ⟨ys, ha⟩, q⟩ => ⟨X, σ', r, S', g, a, ex, isListT ha,
    EVs_cons hs (fun s S => q.run S fun v s' y σ' r S' g ⟨ys, ha, hz, q⟩ => ⟨y, σ', r, S', g, EVs_nil (OP_append ha hz q)⟩)⟩)
theorem EV_index {o e : PySem.Expr} {apos pos : Pos} (hbase : attributeBase o "index" env (eval o env) = eval o env) (hline : (apos.endLine == pos.line) = true)
    (hfew : ((backTo pos (starEach [e] env)).all (fun x => !x.1) && (backToKw pos (keywordEach [] env)).all (fun x => x.1.isSome) && decide ([e].length + ([] : List Keyword).length + (if ([] : List Keyword).isEmpty then 0 else 1) < 30)) = true)
    (hs : starEach [e] env = (false, eval e env) :: starEach [] env) (hplain : (backTo pos (starEach [] env)).any (·.1) = false)
    (h : EV prog c (eval o env) ρ σ fun X σ₁ => ∃ a, X = .loc a ∧ (∃ ys, σ₁ a = some (.list ys)) ∧ EV prog c (eval e env) ρ σ₁ fun y σ₂ => OPn prog c (fun vs => call (.builtin "list.index") vs) [.loc a, y] ρ σ₂ Q) :
    EV prog c (eval (.Call (.Attribute o "index" apos) [e] [] pos) env) ρ σ Q :=
  EV_bmeth hbase hfew hline F.plainAttrs_list F.slot_list_index F.type_list_index hs hplain (fun s S => h.run S fun v s' X σ' r S' g ⟨a, ex, ⟨ys, ha⟩, q⟩ => ⟨X, σ', r, S', g, a, ex, isListT ha,
    EVs_cons hs (fun s S => q.run S fun v s' y σ' r S' g q => ⟨y, σ', r, S', g, EVs_nil q⟩)⟩)
theorem anyDict {a : Addr} (ha : (∃ ys, σ a = some (.dictI ys)) ∨ (∃ ys, σ a = some (.dictS ys)) ∨ (∃ ys, σ a = some (.dictT ys))) : ∀ s, Sim prog c ρ σ s → s.TypeIs (.ref a) "dict" ∧ ∃ ob, s.heap.get? a = some ob ∧ ob.dict = none :=
  ha.elim (fun ⟨_, h⟩ => isDictI h) fun ha => ha.elim (fun ⟨_, h⟩ => isDictS h) fun ⟨_, h⟩ => isDictT h
theorem EV_get {o e e' : PySem.Expr} {apos pos : Pos} (hbase : attributeBase o "get" env (eval o env) = eval o env) (hline : (apos.endLine == pos.line) = true)
    (hfew : ((backTo pos (starEach [e, e'] env)).all (fun x => !x.1) && (backToKw pos (keywordEach [] env)).all (fun x => x.1.isSome) && decide ([e, e'].length + ([] : List Keyword).length + (if ([] : List Keyword).isEmpty then 0 else 1) < 30)) = true)
    (hs : starEach [e, e'] env = (false, eval e env) :: starEach [e'] env) (hs' : starEach [e'] env = (false, eval e' env) :: starEach [] env) (hplain : (backTo pos (starEach [e'] env)).any (·.1) = false)
    (h : EV prog c (eval o env) ρ σ fun X σ₁ => ∃ a, X = .loc a ∧ ((∃ ys, σ₁ a = some (.dictI ys)) ∨ (∃ ys, σ₁ a = some (.dictS ys)) ∨ (∃ ys, σ₁ a = some (.dictT ys))) ∧
      EV prog c (eval e env) ρ σ₁ fun y σ₂ => EV prog c (eval e' env) ρ σ₂ fun y' σ₃ => OPn prog c (fun vs => call (.builtin "dict.get") vs) [.loc a, y, y'] ρ σ₃ Q) :
    EV prog c (eval (.Call (.Attribute o "get" apos) [e, e'] [] pos) env) ρ σ Q :=
  EV_bmeth hbase hfew hline F.plainAttrs_dict F.slot_dict_get F.type_dict_get hs hplain (fun s S => h.run S fun v s' X σ' r S' g ⟨a, ex, ha, q⟩ => ⟨X, σ', r, S', g, a, ex, anyDict ha,
    EVs_cons hs (fun s S => q.run S fun v s' y σ' r S' g q => ⟨y, σ', r, S', g, EVs_cons hs' (fun s S => q.run S fun v s' y σ' r S' g q => ⟨y, σ', r, S', g, EVs_nil q⟩)⟩)⟩)
end
end RH
namespace RH
open PySem PySem.W PySem.Calls PyProof.Rows
/-! names kept -/
def Sub (ρ₀ ρ : Loc) : Prop := ∀ x V, lget ρ₀ x = some V → lget ρ x = some V
theorem Sub.refl (ρ : Loc) : Sub ρ ρ := fun _ _ e => e
theorem Sub.trans {a b c : Loc} (x : Sub a b) (y : Sub b c) : Sub a c := fun n v e => y n v (x n v e)
theorem Sub.nil {ρ : Loc} : Sub [] ρ := fun _ _ e => by cases e
theorem Sub.cons {ρ₀ ρ : Loc} {x : Str} {v : V} (h : lget ρ x = some v) (r : Sub ρ₀ ρ) : Sub ((x, v) :: ρ₀) ρ := fun y V e => by
  unfold lget at e
  split at e
  · rename_i z; cases e; exact z ▸ h
  · exact r y V e
theorem Sub.miss {ρ₀ ρ : Loc} {x : Str} {v : V} (r : Sub ρ₀ ρ) (h : lget ρ₀ x = none) : Sub ρ₀ (lset ρ x v) := fun y V e => by
  rw [lget_lset]
  by_cases z : y = x
  · subst z; rw [h] at e; cases e
  · rw [if_neg z]; exact r y V e
theorem Sub.both {ρ₀ ρ : Loc} {x : Str} {v : V} (r : Sub ρ₀ ρ) : Sub (lset ρ₀ x v) (lset ρ x v) := fun y V e => by
  rw [lget_lset] at e ⊢
  by_cases z : y = x
  · rw [if_pos z] at e ⊢; exact e
  · rw [if_neg z] at e ⊢; exact r y V e

section
variable {prog : Program} {w : World} {K : Frag} {c : Cx w K} {ρ : Loc} {σ : St} {env : Env} {Q : Fl → Loc → St → Prop}
theorem loopX.mono {P P' : Loc → St → Prop} (k : ∀ ρ σ, P ρ σ → P' ρ σ) : ∀ f ρ' σ', loopX P Q f ρ' σ' → loopX P' Q f ρ' σ'
  | .next, _, _, h => k _ _ h
  | .cont, _, _, h => k _ _ h
  | .brk, _, _, h => h
  | .ret _, _, _, h => h
theorem FB_ind {x : Str} {body : List Stmt} {ok : St → Prop} (inv : List V → Loc → St → Prop)
    (step : ∀ v vs ρ σ, inv (v :: vs) ρ σ → EX prog c (execs body env) (lset ρ x v) σ (loopX (fun ρ' σ' => ok σ' ∧ inv vs ρ' σ') Q))
    (done : ∀ ρ σ, inv [] ρ σ → Q .next ρ σ) : ∀ {xs : List V} {ρ : Loc} {σ : St}, inv xs ρ σ → FB prog c x body env ok xs ρ σ Q
  | [], ρ, σ, h => done ρ σ h
  | v :: vs, ρ, σ, h => (step v vs ρ σ h).mono (loopX.mono fun ρ' σ' ⟨h1, h2⟩ => ⟨h1, FB_ind inv step done h2⟩)
theorem FB.mono {x : Str} {body : List Stmt} {ok : St → Prop} {Q' : Fl → Loc → St → Prop} (k : ∀ f ρ σ, Q f ρ σ → Q' f ρ σ) : ∀ {xs : List V} {ρ : Loc} {σ : St}, FB prog c x body env ok xs ρ σ Q → FB prog c x body env ok xs ρ σ Q'
  | [], ρ, σ, h => k _ _ _ h
  | v :: vs, ρ, σ, h => EX.mono h fun f ρ' σ' => match f with
    | .next => fun ⟨h1, h2⟩ => ⟨h1, FB.mono k h2⟩
    | .cont => fun ⟨h1, h2⟩ => ⟨h1, FB.mono k h2⟩
    | .brk => fun h => k _ _ _ h
    | .ret _ => fun h => k _ _ _ h
/-- a loop that never returns: what stands when it ends -/
theorem FB_run {x : Str} {body : List Stmt} {ok : St → Prop} (inv : List V → Loc → St → Prop) (J : Loc → St → Prop)
    (step : ∀ v vs ρ σ, inv (v :: vs) ρ σ → EX prog c (execs body env) (lset ρ x v) σ (loopX (fun ρ' σ' => ok σ' ∧ inv vs ρ' σ') fun fl ρ σ => fl = .next ∧ J ρ σ))
    (done : ∀ ρ σ, inv [] ρ σ → J ρ σ) (k : ∀ ρ σ, J ρ σ → Q .next ρ σ) {xs : List V} {ρ : Loc} {σ : St} (h : inv xs ρ σ) : FB prog c x body env ok xs ρ σ Q :=
  FB.mono (Q := fun fl ρ σ => fl = .next ∧ J ρ σ) (fun f ρ σ ⟨e, j⟩ => e ▸ k ρ σ j) (FB_ind inv step (fun ρ σ h => ⟨rfl, done ρ σ h⟩) h)
theorem CB_ind {x : Str} {elt : PySem.Expr} {ok : St → Prop} {D : Addr} {Q : St → Prop} (inv : List V → Loc → St → Prop)
    (step : ∀ v vs ρ σ, inv (v :: vs) ρ σ → EV prog c (eval elt env) (lset ρ x v) σ fun y σ' => ∃ ys, σ' D = some (.list ys) ∧ ys.length ≤ 1000000 ∧ ok (upd σ' D (.list (ys ++ [y]))) ∧ inv vs (lset ρ x v) (upd σ' D (.list (ys ++ [y]))))
    (done : ∀ ρ σ, inv [] ρ σ → Q σ) : ∀ {xs : List V} {ρ : Loc} {σ : St}, inv xs ρ σ → CB prog c x elt env ok D xs ρ σ Q
  | [], ρ, σ, h => done ρ σ h
  | v :: vs, ρ, σ, h => (step v vs ρ σ h).mono fun y σ' ⟨ys, h1, h2, h3, h4⟩ => ⟨ys, h1, h2, h3, CB_ind inv step done h4⟩
end
end RH

namespace RH
open PySem PySem.W PySem.Calls PyProof.Rows
section
variable {prog : Program} {w : World} {K : Frag} {c : Cx w K} {ρ : Loc} {σ : St} {env : Env} {Q : List V → St → Prop} {rest : List PySem.Expr} {pos : Pos}
theorem EVs_str {x : Str} {k : Nat} {p : Pos} (h : EVs prog c (spliced (backTo pos (starEach rest env))) ρ σ fun xs σ₂ => Q (.str x :: xs) σ₂) :
   EVs prog c (spliced (backTo pos (starEach (.Constant (.str x) k p :: rest) env))) ρ σ Q := EVs_cons rfl (EV_str h)
theorem EVs_int {x : Int} {k : Nat} {p : Pos} (h : EVs prog c (spliced (backTo pos (starEach rest env))) ρ σ fun xs σ₂ => Q (.int x :: xs) σ₂) :
   EVs prog c (spliced (backTo pos (starEach (.Constant (.int x) k p :: rest) env))) ρ σ Q := EVs_cons rfl (EV_int h)
theorem EVs_row {x : Str} {y : Int} {k k' kt : Nat} {p p' pt : Pos} (h : EVs prog c (spliced (backTo pos (starEach rest env))) ρ σ fun xs σ₂ => Q (.tup [.str x, .int y] :: xs) σ₂) :
   EVs prog c (spliced (backTo pos (starEach (.Tuple [.Constant (.str x) k p, .Constant (.int y) k' p'] kt pt :: rest) env))) ρ σ Q := EVs_cons rfl (EV_Tuple (EVs_str (EVs_int (EVs_nil ⟨by simp, h⟩))))
end
end RH
namespace RH
open PySem PySem.W PySem.Calls PyProof.Rows
section
variable {prog : Program} {w : World} {K : Frag} {c : Cx w K} {ρ : Loc} {σ : St} {env : Env} {Q : V → St → Prop}
/-- a function that has defaults, all of them given -/
theorem CF_KD {names : List Str} {args : List V} {name qual : Str} {params : Arguments} {body : List Stmt} {scope : Scope} {dV kV doc pm cdv ct : Value} {an : Option Addr} {f : Addr} {fo : Obj} {d : Nat} (hl : K.lookup f = some fo) (hd : d + 1 = c.d)
    (hfd : fo.data = .func (fnX name qual params body scope [] dV kV doc pm an cdv ct)) (hcr : codeIn K cdv qual = true)
    (hbind : ∀ vs : List Value, vs.length = args.length → ∀ S, peek K S (bindArgs (fnX name qual params body scope [] dV kV doc pm an cdv ct) ⟨vs, []⟩) = some (names.zip vs))
    (hlen : names.length = args.length) (hnd : names.Nodup) (hloc : ∀ x ∈ names, scope.names.lookup x = some .local) (hcell : ∀ x ∈ scope.names, x.2 ≠ .cell)
    (hco : scope.isCoroutine = false) (hgen : scope.isGenerator = false) (hk : scope.kind = .function)
    (h : ∀ c' : Cx w K, c'.d = d → EnvOk c' (envX qual scope c'.L f cdv []) → EX prog c' (execs body (envX qual scope c'.L f cdv [])) (names.zip args) σ (fun fl _ σ' => Q (retV fl) σ')) :
    CF prog c f args ρ σ Q :=
  CF_fn hd (fun s S => ⟨⟨fo, S.inK f fo hl, hfd⟩, codeRec_of S.inK hcr⟩) (fun s vs S hv => kp_binds S.inK (hbind vs hv)) hlen hnd hloc hcell hco hgen hk h
end
end RH
namespace RH
open PySem PySem.W PySem.Calls PyProof.Rows
section
variable {prog : Program} {w : World} {K : Frag} {c : Cx w K} {ρ : Loc} {σ : St} {env : Env} {Q : V → St → Prop}
/-- a function that has cells -/
theorem CF_KC {names : List Str} {args : List V} {name qual : Str} {params : Arguments} {body : List Stmt} {scope : Scope} {dV kV doc pm cdv ct : Value} {an : Option Addr} {f : Addr} {fo : Obj} {d : Nat} (hl : K.lookup f = some fo) (hd : d + 1 = c.d)
    (hfd : fo.data = .func (fnX name qual params body scope [] dV kV doc pm an cdv ct)) (hcr : codeIn K cdv qual = true)
    (hbind : ∀ vs : List Value, vs.length = args.length → ∀ S, peek K S (bindArgs (fnX name qual params body scope [] dV kV doc pm an cdv ct) ⟨vs, []⟩) = some (names.zip vs))
    (hkind : (names.all fun y => scope.names.lookup y == some .local || scope.names.lookup y == some .cell) = true) (hnd : ((cellsFrom 0 scope.names []).map (·.1)).Nodup)
    (hco : scope.isCoroutine = false) (hgen : scope.isGenerator = false) (hk : scope.kind = .function)
    (h : ∀ c' : Cx w K, c'.d = d → EnvOk c' (envX qual scope c'.L f cdv (cellsFrom (c'.L + 1) scope.names [])) → (∀ a, c'.L ≤ a → σ a = none) →
      EX prog c' (execs body (envX qual scope c'.L f cdv (cellsFrom (c'.L + 1) scope.names []))) (locV (fun x => scope.names.lookup x) (names.zip args) []) (cellS (celV (fun x => scope.names.lookup x) (names.zip args) fun _ => none) σ (cellsFrom (c'.L + 1) scope.names []))
        (fun fl _ σ' => Q (retV fl) σ')) :
    CF prog c f args ρ σ Q :=
  CF_fnC hd (fun s S => ⟨⟨fo, S.inK f fo hl, hfd⟩, codeRec_of S.inK hcr⟩) (fun s vs S hv => kp_binds S.inK (hbind vs hv)) hkind hnd hco hgen hk h
end
end RH
namespace RH
/-- the cells of a function with two -/
theorem cells2 {σ : St} {L : PySem.Addr} {x y : Option V} (hfr : ∀ a, L ≤ a → σ a = none) : Keep [] σ (upd (upd σ (L + 1) (.cell x)) (L + 1 + 1) (.cell y)) ∧
    upd (upd σ (L + 1) (.cell x)) (L + 1 + 1) (.cell y) (L + 1) = some (.cell x) ∧ upd (upd σ (L + 1) (.cell x)) (L + 1 + 1) (.cell y) (L + 1 + 1) = some (.cell y) := by
  have n1 : L + 1 + 1 ≠ L + 1 := Nat.succ_ne_self _
  have f1 : σ (L + 1) = none := hfr _ (Nat.le_succ _)
  have f2 : σ (L + 1 + 1) = none := hfr _ (Nat.le_add_right _ 2)
  exact ⟨Keep.updNew (Keep.updNew (Keep.refl _ _) f1 _) ((upd_ne n1).trans f2) _, (upd_ne (Ne.symm n1)).trans (upd_same _ _ _), upd_same _ _ _⟩
end RH
namespace RH
open PySem PySem.W PySem.Calls PyProof.Rows
section
variable {prog : Program} {w : World} {K : Frag} {c : Cx w K} {ρ : Loc} {σ : St} {env : Env} {Q : V → St → Prop}
theorem OP_nes {i j : Str} (h : Q (.bool (i != j)) σ) : OP2 prog c (compareOp .NotEq) (.str i) (.str j) ρ σ Q := fun s v u S r₁ r₂ => by
  cases r₁; cases r₂; exact ne_str ⟨_, σ, .bool _, S, Go.refl _ _ _, h⟩
end
end RH
set_option Elab.async false
set_option maxRecDepth 10000
set_option linter.all false
namespace RH
open PySem PySem.W PySem.Calls PyProof.Rows
section
variable {prog : Program} {w : World} {K : Frag} {c : Cx w K} {ρ : Loc} {σ : St} {env : Env} {Q : V → St → Prop}
theorem CF_fnh {names : List Str} {args : List V} {name qual : Str} {params : Arguments} {body : List Stmt} {scope : Scope} {cl : List (Str × Addr)} {dV kV doc pm cdv ct : Value} {an : Option Addr} {f : Addr} {d : Nat} (hd : d + 1 = c.d)
    (ho : ∀ s, Sim prog c ρ σ s → (∃ fo, s.heap.get? f = some fo ∧ fo.data = .func (fnX name qual params body scope cl dV kV doc pm an cdv ct)) ∧ s.heap.CodeRec cdv qual)
    (hbind : ∀ s vs, Sim prog c ρ σ s → vs.length = args.length → BindsTo s (fnX name qual params body scope cl dV kV doc pm an cdv ct) ⟨vs, []⟩ (names.zip vs))
    (hlen : names.length = args.length) (hnd : names.Nodup) (hloc : ∀ x ∈ names, scope.names.lookup x = some .local) (hcell : ∀ x ∈ scope.names, x.2 ≠ .cell)
    (hco : scope.isCoroutine = false) (hgen : scope.isGenerator = false) (hk : scope.kind = .function)
    (h : ∀ c' : Cx w K, c'.d = d → (∀ b o, c.h₀.get? b = some o → c'.h₀.get? b = some o) → EnvOk c' (envX qual scope c'.L f cdv cl) → EX prog c' (execs body (envX qual scope c'.L f cdv cl)) (names.zip args) σ (fun fl _ σ' => Q (retV fl) σ')) :
    CF prog c f args ρ σ Q := fun s vs S rs => by
  obtain ⟨⟨fo, hfo, hfd⟩, hcr⟩ := ho s S
  obtain ⟨m, F⟩ := S.fr
  have hl : vs.length = args.length := rs.length
  refine codeAny_call_def (fd := fnX name qual params body scope cl dV kV doc pm an cdv ct) (body := body) (binds := names.zip vs) (by have := c.dp; show c.A.depth < 1000; omega) hfo hfd (c.T.nolimit.keeps F.keep) hcr rfl (hbind s vs S hl) hcell
    (fun x hx => hloc x.1 (by obtain ⟨a, b⟩ := x; exact (List.of_mem_zip hx).1)) (fun h₁ hns hk₁ => ?_) hco hgen hk
  let c' : Cx w K := c.callee (hideS σ s.heap) S.hidden (envX qual scope s.heap.objs.size f cdv cl) s.heap.objs.size rfl hk d hd
  have S' : Sim prog c' (names.zip args) σ { s with heap := h₁, toks := s.toks + (names.zip vs).length } := by
    refine ⟨⟨_, ⟨hns, fun b o e => hk₁ b o (of_hideS e), Nat.le_of_eq (hideS_size _ _)⟩, ?_⟩, fun a o e => ⟨?_, hideS_none (by rw [e]; simp), (S.obj a o e).2.2.mono (tk_of_ext hk₁) fun ob => hk₁ a ob⟩⟩
    · have key : ∀ (ns : List Str) (us : List Value) (xs : List V), ns.Nodup → VRs s.heap us xs → LR h₁ (ns.zip xs) (fun x => (ns.zip us).reverse.lookup x) := by
        intro ns
        induction ns with
        | nil => intro us xs _ _ x V e; simp [lget] at e
        | cons n ns ih =>
          intro us xs hn hr x V e
          cases hr with
          | nil => simp [lget] at e
          | @cons v y us ys ra rb =>
            rw [List.nodup_cons] at hn
            simp only [List.zip_cons_cons, lget] at e
            simp only [List.zip_cons_cons, List.reverse_cons, List.lookup_append]
            by_cases q : n = x
            · subst q
              rw [if_pos rfl] at e; cases e
              have : (ns.zip us).reverse.lookup n = none := by
                rw [List.lookup_eq_none_iff]
                intro p hp
                have := (List.of_mem_zip (List.mem_reverse.mp hp)).1
                simp
                intro z; rw [z] at hn; exact hn.1 this
              exact ⟨v, by rw [this]; simp, ra.mono (tk_of_ext hk₁)⟩
            · rw [if_neg q] at e
              obtain ⟨u, hu, ru⟩ := ih us ys hn.2 rb x V e
              exact ⟨u, by dsimp only at hu; rw [hu]; rfl, ru⟩
      exact key names vs args hnd rs
    · intro z
      obtain ⟨ob, hob, _⟩ := (S.obj a o e).2.2.nt
      have : a = s.heap.objs.size := z
      rw [this] at hob
      exact absurd (Heap.lt_size hob) (Nat.lt_irrefl _)
  refine wpAny_mono (EX.run (c := c') (h c' rfl (by obtain ⟨m, F⟩ := S.hidden; exact F.keep) ⟨rfl, hk, rfl, rfl⟩) S' (P := fun fl s' => ∃ V σ', VR s'.heap (match fl with | .ret v => v | _ => .none) V ∧ Sim prog c ρ σ' s' ∧ Go c.L σ s σ' s' ∧ Q V σ') fun fl s' Fl' ρ' σ' r Sb g q => ?_) (fun fl s' hq => ?_) fun _ _ e => e.elim
  · obtain ⟨Sc, gc⟩ := S.back (c' := c') (fun b o e n => hideS_some e n) Sb (by obtain ⟨h, t, e⟩ := g.st; exact ⟨h, t, e⟩)
    refine ⟨retV Fl', σ', ?_, Sc, gc, q⟩
    cases fl with
    | next => rw [FR_next r]; exact .none
    | brk => rw [FR_brk r]; exact .none
    | cont => rw [FR_cont r]; exact .none
    | ret v => obtain ⟨V, e, r'⟩ := FR_ret r; rw [e]; exact r'
  · exact hq

theorem CF_Kh {names : List Str} {args : List V} {name qual : Str} {params : Arguments} {body : List Stmt} {scope : Scope} {dV kV doc pm cdv ct : Value} {an : Option Addr} {f : Addr} {fo : Obj} {d : Nat} (hl : K.lookup f = some fo) (hd : d + 1 = c.d)
    (hfd : fo.data = .func (fnX name qual params body scope [] dV kV doc pm an cdv ct)) (hcr : codeIn K cdv qual = true)
    (hbind : ∀ vs : List Value, vs.length = args.length → bindArgs (fnX name qual params body scope [] dV kV doc pm an cdv ct) ⟨vs, []⟩ = pure (names.zip vs))
    (hlen : names.length = args.length) (hnd : names.Nodup) (hloc : ∀ x ∈ names, scope.names.lookup x = some .local) (hcell : ∀ x ∈ scope.names, x.2 ≠ .cell)
    (hco : scope.isCoroutine = false) (hgen : scope.isGenerator = false) (hk : scope.kind = .function)
    (h : ∀ c' : Cx w K, c'.d = d → (∀ b o, c.h₀.get? b = some o → c'.h₀.get? b = some o) → EnvOk c' (envX qual scope c'.L f cdv []) → EX prog c' (execs body (envX qual scope c'.L f cdv [])) (names.zip args) σ (fun fl _ σ' => Q (retV fl) σ')) :
    CF prog c f args ρ σ Q :=
  CF_fnh hd (fun s S => ⟨⟨fo, S.inK f fo hl, hfd⟩, codeRec_of S.inK hcr⟩) (fun s vs S hv => BindsTo.of_eq (hbind vs hv)) hlen hnd hloc hcell hco hgen hk h

theorem EV_UptoG {value e : PySem.Expr} {p pos : Pos} (ht : ∀ o r, letTemporaryGo value o r = pure ())
    (h : EV prog c (eval value env) ρ σ fun X σ₁ => EV prog c (eval e env) ρ σ₁ fun I σ₂ => ∃ a vs k, X = .loc a ∧ (∀ s, Sim prog c ρ σ₂ s → ∃ items, s.heap.IsList a items ∧ VRs s.heap items.toList vs) ∧ vs.length ≤ 1000000 ∧ I = .int k ∧ 0 ≤ k ∧ ∀ d, σ₂ d = none → Q (.loc d) (upd σ₂ d (.list (vs.take k.toNat)))) :
    EV prog c (eval (.Subscript value (.Slice none (some e) none p) pos) env) ρ σ Q := fun s S => by
  refine wpAny_Subscript_list_slice (h.run S fun o s₁ X σ₁ rX S₁ g₁ h₁ => ?_) ht
  rw [evalPart_none, evalPart_some]
  refine wpAny_pure (h₁.run S₁ fun i s₂ I σ₂ rI S₂ g₂ ⟨a, vs, k, ex, ha, hz, ek, hk, q⟩ => ?_)
  subst ex; subst ek
  cases rX; cases rI with | int _ t =>
  obtain ⟨items, pl, hv⟩ := ha s₂ S₂
  refine ⟨a, items, _, _, rfl, pl, by rw [len_items hv]; exact Nat.le_trans hz (by decide), .none, .int k t, ?_⟩
  have e : sliceBounds none (some k) none items.size = (((0 : Nat) : Int), ((min k.toNat items.size : Nat) : Int), 1) := by
    simp only [sliceBounds, Option.getD_none, show (1 : Int) > 0 by decide, if_true, if_neg (show ¬ (k < 0) by omega)]
    congr 1
    congr 1
    omega
  rw [kmk_pick_nat _ e]
  have et : ((items.toList.drop 0).take (min k.toNat items.size - 0)) = items.toList.take k.toNat := by
    rw [List.drop_zero, Nat.sub_zero]
    conv => lhs; rw [← Array.length_toList]
    exact kmk_take_min _ _
  rw [et]
  have S3 := S₂.pushT { cls := .type "slice", data := .fields #[.none, .int k t, .none] } s₂.toks
  have hsz : (s₂.heap.push { cls := .type "slice", data := .fields #[.none, .int k t, .none] }).objs.size = s₂.heap.objs.size + 1 := by simp [Heap.push]
  have S4 := S3.pushO { cls := .type "list", data := .seq (items.toList.take k.toNat).toArray } (.list (vs.take k.toNat)) s₂.toks ⟨(items.toList.take k.toNat).toArray, ⟨0, Heap.get?_push_size _ rfl⟩, by simpa using ((hv.take k.toNat).mono (TK.push _ _)).mono (TK.push _ _)⟩
  have g4 := Go.pushO S3 { cls := .type "list", data := .seq (items.toList.take k.toNat).toArray } (.list (vs.take k.toNat)) s₂.toks
  have fr := S3.freshAt
  simp only at S4 g4 fr
  rw [hsz] at S4 g4 fr
  exact ⟨_, _, .loc _, S4, ((g₁.trans g₂).trans (Go.pushT _ _ _ _)).trans g4, q _ fr⟩
/-- a list of ints that was there before -/
def Given (c : Cx w K) (x : Addr) (xs : List Int) : Prop := ∃ items, c.h₀.IsList x items ∧ IntsAre items.toList xs
theorem Given.keep {c' : Cx w K} {x : Addr} {xs : List Int} (h : Given c x xs) (k : ∀ b o, c.h₀.get? b = some o → c'.h₀.get? b = some o) : Given c' x xs := by
  obtain ⟨items, ⟨o, ho, r⟩, hi⟩ := h
  exact ⟨items, ⟨o, k _ _ ho, r⟩, hi⟩
theorem VRs_ints {h : Heap} : ∀ {vs : List Value} {xs : List Int}, IntsAre vs xs → VRs h vs (xs.map V.int)
  | _, _, .nil => .nil
  | _, _, .cons n t r => .cons (.int n t) (VRs_ints r)
theorem Given.at {x : Addr} {xs : List Int} (h : Given c x xs) : ∀ s, Sim prog c ρ σ s → ∃ items, s.heap.IsList x items ∧ VRs s.heap items.toList (xs.map V.int) := fun s S => by
  obtain ⟨items, ⟨o, ho, r⟩, hi⟩ := h
  obtain ⟨m, F⟩ := S.fr
  exact ⟨items, ⟨o, F.keep _ _ ho, r⟩, VRs_ints hi⟩
end
end RH
set_option Elab.async false
set_option maxRecDepth 10000
set_option linter.all false
namespace RH
open PySem PySem.W PySem.Calls PyProof.Rows
def Cx.ofTop {w : World} {K : Frag} {h₀ : Heap} {L : Addr} {p : Program} {loose : List Str} {mean : ExcName → Option Value} {mg mb : Str → Option Value} {env : Env}
    (X : K.In h₀) (T : Top p loose mean mg mb h₀) (B : Below callerA h₀ [] h₀) (hf : env.frame = some L) (hk : env.scope.kind = .function) : Cx w K where
  A := callerA.deeper env
  L := L
  h₀ := h₀
  d := 494
  p := p
  loose := loose
  mean := mean
  mg := mg
  mb := mb
  base := h₀
  frs := [env]
  hA := rfl
  BB := fun g m F => pushX B F hf hk
  X := X
  T := T
  hh := rfl
  dp := by show callerA.depth + 1 + 494 < 1000; decide +kernel
  un := by show callerA.units + 3 + 20 * 494 < 9900; decide +kernel
theorem law_enter {prog : Program} {w : World} {K : Frag} {h₀ : Heap} {L : Addr} {p : Program} {loose : List Str} {mean : ExcName → Option Value} {mg mb : Str → Option Value} {env : Env} {m : Str → Option Value} {news : List (Addr × Obj)} {s : Shared}
    (X : K.In h₀) (T : Top p loose mean mg mb h₀) (B : Below callerA h₀ [] h₀) (F : Fr h₀ L s.heap m) (N : News h₀ L s.heap news) (hf : env.frame = some L) (hk : env.scope.kind = .function)
    {t : Sem Flow} {P : Flow → Shared → Prop} {E : Value → Shared → Prop} (ρ₀ : Loc) (σ₀ : St) {q : Str} {pos : Pos}
    (hσ : ∀ a o, σ₀ a = some o → ∃ ob, (a, ob) ∈ news ∧ (s.heap.get? a = some ob → OR prog w s.heap a o)) (hρ : LR s.heap ρ₀ m)
    (hx : ∀ c : Cx w K, c.L = L → c.h₀ = h₀ → c.d = 494 → EX prog c t ρ₀ σ₀ (fun fl _ σ' => fl = .ret (.bool true) ∧ TabIs 185 pos q σ'))
    (hq : ∀ s' m', s'.gens = s.gens → s'.os = s.os → Fr h₀ L s'.heap m' → GrownAt 185 s'.heap → P (.ret (.bool true)) s') :
    wpAny (model prog w) (callerA.deeper env) t P E s := by
  let c : Cx w K := Cx.ofTop X T B hf hk
  have S : Sim prog c ρ₀ σ₀ s := ⟨⟨m, F, hρ⟩, fun a o e => by
    obtain ⟨ob, hm, ho⟩ := hσ a o e
    obtain ⟨n1, n2, n3⟩ := N _ hm
    exact ⟨n2, n3, ho n1⟩⟩
  refine wpAny_mono (EX.run (c := c) (hx c rfl rfl rfl) S (P := P) fun f s' fl ρ' σ' r S' g ⟨e, ht⟩ => ?_) (fun _ _ h => h) fun _ _ h => h.elim
  subst e
  obtain ⟨⟨h, tk, e⟩, _, _, _⟩ := g
  cases f with
  | next => exact r.elim
  | brk => exact r.elim
  | cont => exact r.elim
  | ret v =>
    cases r
    obtain ⟨m', F', _⟩ := S'.loc
    refine hq s' m' (by rw [e]) (by rw [e]) F' ?_
    cases ht with
    | new h => exact ⟨_, (S'.obj _ _ h).2.2.1⟩
    | old h _ _ _ _ => exact ⟨_, (S'.obj _ _ h).2.2.1⟩
def cells (L : Addr) (n : Nat) : St := fun a => if a = 185 then some (.raw (tabObj #[])) else if L < a ∧ a ≤ L + n then some (.cell none) else none
theorem gapN {L a n : Nat} (h : L < a ∧ a ≤ L + n) : ∃ i, i < n ∧ a = L + 1 + i := ⟨a - L - 1, by omega, by omega⟩
theorem law_enter1 {prog : Program} {w : World} {K : Frag} {h₀ : Heap} {L : Addr} {p : Program} {loose : List Str} {mean : ExcName → Option Value} {mg mb : Str → Option Value} {env : Env} {m : Str → Option Value} {news : List (Addr × Obj)} {s : Shared}
    (X : K.In h₀) (T : Top p loose mean mg mb h₀) (B : Below callerA h₀ [] h₀) (F : Fr h₀ L s.heap m) (N : News h₀ L s.heap news) (hf : env.frame = some L) (hk : env.scope.kind = .function)
    {x : Addr} {vs : List Value} {xs : List Int} (hl : h₀.IsList x vs.toArray) (hI : IntsAre vs xs) (n : Nat)
    {t : Sem Flow} {P : Flow → Shared → Prop} {E : Value → Shared → Prop} {q : Str} {pos : Pos}
    (hm : m "script" = some (.ref x)) (h185 : (185, tabObj #[]) ∈ news) (hc : ∀ i, i < n → ∃ ob, (L + 1 + i, ob) ∈ news ∧ ob.data = .cell none)
    (hx : ∀ c : Cx w K, c.L = L → Given c x xs → c.d = 494 → EX prog c t [("script", .loc x)] (cells L n) (fun fl _ σ' => fl = .ret (.bool true) ∧ TabIs 185 pos q σ'))
    (hq : ∀ s' m', s'.gens = s.gens → s'.os = s.os → Fr h₀ L s'.heap m' → GrownAt 185 s'.heap → P (.ret (.bool true)) s') :
    wpAny (model prog w) (callerA.deeper env) t P E s := by
  refine law_enter X T B F N hf hk [("script", .loc x)] (cells L n) (fun a o e => ?_) ?_ (fun c h1 h2 h3 => hx c h1 ⟨vs.toArray, h2 ▸ hl, hI⟩ h3) hq
  · unfold cells at e
    split at e
    · rename_i z
      subst z; cases e
      exact ⟨_, h185, fun h => ⟨h, fun _ _ e => by cases e⟩⟩
    · split at e
      · rename_i z
        cases e
        obtain ⟨i, hi, rfl⟩ := gapN z
        obtain ⟨ob, h1, h2⟩ := hc i hi
        exact ⟨ob, h1, fun h => ⟨ob, none, h, h2, trivial⟩⟩
      · cases e
  · intro y V e
    simp only [lget] at e
    split at e
    · rename_i z
      subst z
      cases e
      exact ⟨_, hm, .loc _⟩
    · cases e
end RH
set_option Elab.async false
set_option maxRecDepth 10000
set_option linter.all false
namespace RH
open PySem PySem.W PySem.Calls PyProof.Rows

/-! coins, ints -/
def coin : List Int → Int → Int
  | [], _ => 0
  | y :: _, n => y.fmod n
def intl (l : List Int) : List V := l.map V.int
theorem VDs_intl (σ : St) : ∀ l : List Int, VDs σ (intl l) (l.map PyData.int)
  | [] => .nil
  | _ :: r => .cons (.int _) (VDs_intl σ r)
theorem lay_intl (l : List Int) : PyData.canLayAll0 (l.map PyData.int) = true := by
  induction l with
  | nil => rfl
  | cons x r ih => simp [PyData.canLayAll0, PyData.canLay0, ih]
theorem dep_intl (l : List Int) : PyData.depthAll (l.map PyData.int) = 0 := by
  induction l with
  | nil => rfl
  | cons x r ih => simp [PyData.depthAll, PyData.depth, ih]
theorem okD_intl (l : List Int) : okD (.list (l.map PyData.int)) = true := by
  simp [okD, PyData.canLay0, PyData.depth, lay_intl, dep_intl]

/-! tables of numbers -/
def numb {κ : Type} (l : List κ) : List (κ × V) := l.zipIdx.map fun p => (p.1, .int (p.2 : Nat))
def touch {κ : Type} [DecidableEq κ] (l : List κ) (k : κ) : List κ := if k ∈ l then l else l ++ [k]
def ix {κ : Type} [DecidableEq κ] (l : List κ) (k : κ) : Nat := l.idxOf k
theorem ix_snoc {κ : Type} [DecidableEq κ] {l : List κ} {k : κ} (h : k ∉ l) : ix (l ++ [k]) k = l.length := by
  unfold ix
  rw [List.idxOf_append, if_neg h]
  simp
theorem numb_snoc {κ : Type} (l : List κ) (k : κ) : numb (l ++ [k]) = numb l ++ [(k, .int (l.length : Nat))] := by
  simp [numb, List.zipIdx_append]
theorem numb_length {κ : Type} (l : List κ) : (numb l).length = l.length := by simp [numb]
theorem numb_keys {κ : Type} (l : List κ) : (numb l).map (·.1) = l := by
  unfold numb
  rw [List.map_map]
  show List.map (fun p : κ × Nat => p.1) l.zipIdx = l
  simp
theorem kget_numb {κ : Type} [DecidableEq κ] (l : List κ) (k : κ) : kget (numb l) k = if k ∈ l then some (.int (ix l k : Nat)) else none := by
  have key : ∀ (l : List κ) (n : Nat), ((l.zipIdx n).map fun p => (p.1, V.int (p.2 : Nat))).find? (fun kv => decide (kv.1 = k)) = if k ∈ l then some (k, .int ((l.idxOf k + n : Nat))) else none := by
    intro l
    induction l with
    | nil => intro n; rfl
    | cons x r ih =>
      intro n
      simp only [List.zipIdx_cons, List.map_cons, List.find?_cons]
      by_cases q : x = k
      · subst q; simp
      · have q' : ¬ k = x := fun z => q z.symm
        simp only [q, decide_false, ih, List.mem_cons, q', false_or]
        split
        · rw [List.idxOf_cons, show (x == k) = false by simpa using q, cond_false, Nat.add_assoc, Nat.add_comm 1 n]
        · rfl
  unfold kget numb
  rw [key l 0]
  split <;> rfl
theorem kset_numb {κ : Type} [DecidableEq κ] {l : List κ} {k : κ} (h : k ∉ l) : kset (numb l) k (.int (l.length : Nat)) = numb (l ++ [k]) := by
  unfold kset
  have : (numb l).any (fun kv => decide (kv.1 = k)) = false := by
    rw [any_keys, numb_keys]
    simp
    intro x hx z
    subst z; exact h hx
  rw [this, numb_snoc]
  rfl
theorem touch_mem {κ : Type} [DecidableEq κ] (l : List κ) (k : κ) : k ∈ touch l k := by
  unfold touch; split
  · assumption
  · simp
theorem touch_sub {κ : Type} [DecidableEq κ] {l : List κ} {k x : κ} (h : x ∈ l) : x ∈ touch l k := by
  unfold touch; split
  · exact h
  · simp [h]
theorem touch_length {κ : Type} [DecidableEq κ] (l : List κ) (k : κ) : (touch l k).length ≤ l.length + 1 := by
  unfold touch; split <;> simp

/-! what a table of symbols is -/
structure SyA (σ : St) (x dx a1 a2 a3 a4 : Addr) (ts : List Str) (fs : List (List Int)) : Prop where
  x : σ x = some (.inst 122 dx)
  ns : σ dx = some (.ns [("texts", .loc a1), ("atom_numbers", .loc a2), ("functors", .loc a3), ("functor_numbers", .loc a4)])
  o1 : σ a1 = some (.list (ts.map V.str))
  o2 : σ a2 = some (.dictS (numb ts))
  o3 : σ a3 = some (.list (fs.map fun k => .tup (k.map V.int)))
  o4 : σ a4 = some (.dictT (numb fs))
  ne : a1 ≠ a3
theorem SyA.keep {σ σ' : St} {x dx a1 a2 a3 a4 : Addr} {ts : List Str} {fs : List (List Int)} (h : SyA σ x dx a1 a2 a3 a4 ts fs) {S : List Addr} (k : Keep S σ σ') (n : ∀ a ∈ S, σ a ≠ some (.inst 122 dx) ∧ a ≠ dx ∧ a ≠ a1 ∧ a ≠ a2 ∧ a ≠ a3 ∧ a ≠ a4) : SyA σ' x dx a1 a2 a3 a4 ts fs where
  x := k _ _ h.x fun m => (n _ m).1 h.x
  ns := k _ _ h.ns fun m => (n _ m).2.1 rfl
  o1 := k _ _ h.o1 fun m => (n _ m).2.2.1 rfl
  o2 := k _ _ h.o2 fun m => (n _ m).2.2.2.1 rfl
  o3 := k _ _ h.o3 fun m => (n _ m).2.2.2.2.1 rfl
  o4 := k _ _ h.o4 fun m => (n _ m).2.2.2.2.2 rfl
  ne := h.ne
/-! the first symbols, read off -/
def bodyAt (K : Frag) (a : Addr) : List Stmt := match K.lookup a with
  | some o => match o.data with
    | .func fd => match fd.body with
      | .stmts b => b
      | _ => []
    | _ => []
  | _ => []
def strsE : List PySem.Expr → List Str
  | .Constant (.str s) _ _ :: r => s :: strsE r
  | _ => []
def rowsE : List PySem.Expr → List (Str × Int)
  | .Tuple [.Constant (.str s) _ _, .Constant (.int n) _ _] _ _ :: r => (s, n) :: rowsE r
  | _ => []
def atomsB : List Stmt → List Str
  | [.Return (some (.Tuple es _ _)) _] => strsE es
  | _ => []
def rowsB : List Stmt → List (Str × Int)
  | [.Return (some (.Tuple es _ _)) _] => rowsE es
  | _ => []
def rowV (r : Str × Int) : V := .tup [.str r.1, .int r.2]
def symA (l : List Str) : List Str := l.foldl touch []
def symStep (p : List Str × List (List Int)) (r : Str × Int) : List Str × List (List Int) :=
  (touch p.1 r.1, touch p.2 [(ix (touch p.1 r.1) r.1 : Nat), r.2])
def symF (l : List Str) (rs : List (Str × Int)) : List Str × List (List Int) := rs.foldl symStep (symA l, [])
end RH
namespace RH
open PySem PySem.W PySem.Calls PyProof.Rows
/-! the maker -/
structure NoA (σ : St) (m dm wk : Addr) (sy il fr : V) (n : Int) (ws : List V) : Prop where
  x : σ m = some (.inst 390 dm)
  ns : σ dm = some (.ns [("symbols", sy), ("inline", il), ("fresh", fr), ("next_variable", .int n), ("work", .loc wk)])
  wk : σ wk = some (.list ws)
end RH
namespace RH
open PySem PySem.W PySem.Calls PyProof.Rows
theorem coin_ge (cs : List Int) {n : Int} (h : 0 < n) : 0 ≤ coin cs n := by
  cases cs with
  | nil => exact Int.le_refl _
  | cons y r => exact Int.fmod_nonneg_of_pos y h
theorem coin_lt (cs : List Int) {n : Int} (h : 0 < n) : coin cs n < n := by
  cases cs with
  | nil => exact h
  | cons y r => exact Int.fmod_lt_of_pos y h
theorem vidx_map {α : Type} (f : α → V) (l : List α) {k : Int} (h0 : 0 ≤ k) (h1 : k < l.length) (h2 : k ≤ 1000000) : ∃ x ∈ l, vidx (l.map f) k = some (f x) := by
  have hk : k.toNat < l.length := by omega
  refine ⟨l[k.toNat], List.getElem_mem _, ?_⟩
  unfold vidx
  rw [if_neg (by omega), if_pos h0, List.getElem?_map, List.getElem?_eq_getElem hk]
  rfl
theorem tail_le {α : Type} (l : List α) : l.tail.length ≤ l.length := by simp
end RH
set_option Elab.async false
set_option maxRecDepth 10000
set_option linter.all false
namespace RH
open PySem PySem.W PySem.Calls PyProof.Rows

/-! data of plain values -/
mutual
def dOf : V → PyData
  | .none => .none
  | .bool b => .bool b
  | .int i => .int i
  | .str s => .str s
  | .tup vs => .tuple (dsOf vs)
  | .loc _ => .none
def dsOf : List V → List PyData
  | [] => []
  | v :: r => dOf v :: dsOf r
end
def good : Nat → V → Bool
  | _, .none => true
  | _, .bool _ => true
  | _, .int _ => true
  | _, .str s => PyData.canLay0 (.str s)
  | n + 1, .tup vs => vs.all (good n)
  | _, _ => false
theorem good_all (σ : St) (n : Nat) (ih : ∀ v, good n v = true → VD σ v (dOf v) ∧ (dOf v).canLay0 = true ∧ (dOf v).depth ≤ n) : ∀ vs : List V, vs.all (good n) = true → VDs σ vs (dsOf vs) ∧ PyData.canLayAll0 (dsOf vs) = true ∧ PyData.depthAll (dsOf vs) ≤ n
  | [], _ => ⟨.nil, rfl, Nat.zero_le _⟩
  | v :: r, h => by
    simp only [List.all_cons, Bool.and_eq_true] at h
    obtain ⟨a1, a2, a3⟩ := ih v h.1
    obtain ⟨b1, b2, b3⟩ := good_all σ n ih r h.2
    refine ⟨.cons a1 b1, ?_, ?_⟩
    · simp [dsOf, PyData.canLayAll0, a2, b2]
    · simp only [dsOf, PyData.depthAll]; omega
theorem good_VD (σ : St) : ∀ (n : Nat) (v : V), good n v = true → VD σ v (dOf v) ∧ (dOf v).canLay0 = true ∧ (dOf v).depth ≤ n
  | n, .none, _ => ⟨.none, rfl, Nat.zero_le _⟩
  | n, .bool b, _ => ⟨.bool b, rfl, Nat.zero_le _⟩
  | n, .int i, _ => ⟨.int i, rfl, Nat.zero_le _⟩
  | n, .str s, h => ⟨.str s, by cases n <;> exact h, Nat.zero_le _⟩
  | n + 1, .tup vs, h => by
    obtain ⟨b1, b2, b3⟩ := good_all σ n (good_VD σ n) vs h
    exact ⟨.tup b1, b2, by show PyData.depthAll _ + 1 ≤ _; omega⟩
  | 0, .tup vs, h => by cases h
  | n, .loc a, h => by cases n <;> cases h
theorem good_VDs (σ : St) (n : Nat) (vs : List V) (h : vs.all (good n) = true) : VDs σ vs (dsOf vs) ∧ PyData.canLayAll0 (dsOf vs) = true ∧ PyData.depthAll (dsOf vs) ≤ n := good_all σ n (good_VD σ n) vs h
theorem good_mono : ∀ {n m : Nat} {v : V}, good n v = true → n ≤ m → good m v = true
  | n, m, .none, _, _ => by cases m <;> rfl
  | n, m, .bool b, _, _ => by cases m <;> rfl
  | n, m, .int i, _, _ => by cases m <;> rfl
  | n, m, .str s, h, _ => by cases m <;> cases n <;> exact h
  | n + 1, m + 1, .tup vs, h, hm => by
    simp only [good, List.all_eq_true] at h ⊢
    exact fun v hv => good_mono (h v hv) (by omega)
  | n + 1, 0, .tup vs, h, hm => by omega
  | 0, m, .tup vs, h, hm => by cases h
  | n, m, .loc a, h, _ => by cases n <;> cases h
theorem okD_of {n : Nat} {d : PyData} (h1 : d.canLay0 = true) (h2 : d.depth ≤ n) (h3 : n ≤ 1000) : okD d = true := by
  simp [okD, h1]; omega

/-! pieces: terms and goals -/
inductive Pc where
  | var (i : Int)
  | leaf (b : Bool)
  | st (k : Fin 3) (f : Int) (as : List Pc)
  | uni (l r : Pc)
  | num (k : Fin 3) (i : Int)
  | bare (b : Bool)
def leafV (b : Bool) : V := if b then .tup [.str "i", .int 7] else .tup [.str "a", .int 3]
def stS (k : Fin 3) : Str := if k = 0 then "s" else if k = 1 then "call" else "builtin"
def numS (k : Fin 3) : Str := if k = 0 then "mark" else if k = 1 then "cutto" else "level"
def bareS (b : Bool) : Str := if b then "fail" else "cut"
mutual
def Pc.toV : Pc → V
  | .var i => .tup [.str "v", .int i]
  | .leaf b => leafV b
  | .st k f as => .tup [.str (stS k), .int f, .tup (Pc.toVs as)]
  | .uni l r => .tup [.str "unify", l.toV, r.toV]
  | .num k i => .tup [.str (numS k), .int i]
  | .bare b => .tup [.str (bareS b)]
def Pc.toVs : List Pc → List V
  | [] => []
  | t :: r => t.toV :: Pc.toVs r
end
theorem Pc.toVs_map (l : List Pc) : Pc.toVs l = l.map Pc.toV := by
  induction l with
  | nil => rfl
  | cons t r ih => simp [Pc.toVs, ih]
/-- small -/
def Pc.ok : Nat → Pc → Prop
  | _, .var _ => True
  | _, .leaf _ => True
  | _, .num _ _ => True
  | _, .bare _ => True
  | n + 1, .st _ _ as => as.length ≤ 3 ∧ ∀ a ∈ as, Pc.ok n a
  | n + 1, .uni l r => Pc.ok n l ∧ Pc.ok n r
  | 0, .st _ _ _ => False
  | 0, .uni _ _ => False
/-- a term -/
def Pc.isT : Nat → Pc → Prop
  | _, .var _ => True
  | _, .leaf _ => True
  | n + 1, .st k _ as => k = 0 ∧ as.length ≤ 3 ∧ ∀ a ∈ as, Pc.isT n a
  | _, _ => False
/-- a goal -/
def Pc.isG (n : Nat) : Pc → Prop
  | .st k _ as => k ≠ 0 ∧ as.length ≤ 3 ∧ ∀ a ∈ as, Pc.isT n a
  | .uni l r => l.isT n ∧ r.isT n
  | .num _ _ => True
  | .bare _ => True
  | _ => False
theorem Pc.isT.ok : ∀ {n : Nat} {p : Pc}, p.isT n → p.ok n
  | n, .var _, _ => by cases n <;> trivial
  | n, .leaf _, _ => by cases n <;> trivial
  | n + 1, .st _ _ _, ⟨_, h1, h2⟩ => ⟨h1, fun a ha => Pc.isT.ok (h2 a ha)⟩
  | 0, .st _ _ _, h => h.elim
  | 0, .uni _ _, h => h.elim
  | 0, .num _ _, h => h.elim
  | 0, .bare _, h => h.elim
  | _ + 1, .uni _ _, h => h.elim
  | _ + 1, .num _ _, h => h.elim
  | _ + 1, .bare _, h => h.elim
theorem Pc.isG.ok {n : Nat} {p : Pc} (h : p.isG n) : p.ok (n + 1) := by
  cases p with
  | st k f as => exact ⟨h.2.1, fun a ha => (h.2.2 a ha).ok⟩
  | uni l r => exact ⟨h.1.ok, h.2.ok⟩
  | num k i => trivial
  | bare b => trivial
  | var i => trivial
  | leaf b => trivial

/-! the sequential renaming -/
mutual
def rnS : Pc → List Int → Pc × List Int
  | .var i, ks => (.var (ix (touch ks i) i : Nat), touch ks i)
  | .leaf b, ks => (.leaf b, ks)
  | .st k f as, ks => (.st k f (rnSs as ks).1, (rnSs as ks).2)
  | .uni l r, ks => (.uni (rnS l ks).1 (rnS r (rnS l ks).2).1, (rnS r (rnS l ks).2).2)
  | .num k i, ks => (.num k (ix (touch ks i) i : Nat), touch ks i)
  | .bare b, ks => (.bare b, ks)
def rnSs : List Pc → List Int → List Pc × List Int
  | [], ks => ([], ks)
  | t :: r, ks => ((rnS t ks).1 :: (rnSs r (rnS t ks).2).1, (rnSs r (rnS t ks).2).2)
end
mutual
def Pc.nums : Pc → List Int
  | .var i => [i]
  | .leaf _ => []
  | .st _ _ as => Pc.numss as
  | .uni l r => l.nums ++ r.nums
  | .num _ i => [i]
  | .bare _ => []
def Pc.numss : List Pc → List Int
  | [] => []
  | t :: r => t.nums ++ Pc.numss r
end
mutual
def Pc.ren (g : Int → Int) : Pc → Pc
  | .var i => .var (g i)
  | .leaf b => .leaf b
  | .st k f as => .st k f (Pc.rens g as)
  | .uni l r => .uni (l.ren g) (r.ren g)
  | .num k i => .num k (g i)
  | .bare b => .bare b
def Pc.rens (g : Int → Int) : List Pc → List Pc
  | [] => []
  | t :: r => t.ren g :: Pc.rens g r
end
/-! the shape -/
mutual
def Pc.shape : Pc → List V
  | .var _ => [.str "v"]
  | .leaf b => [leafV b]
  | .st k f as => .tup [.str (stS k), .int f, .int (as.length : Nat)] :: Pc.shapes as
  | .uni l r => .str "unify" :: (l.shape ++ r.shape)
  | .num k _ => [.str (numS k)]
  | .bare b => [.tup [.str (bareS b)]]
def Pc.shapes : List Pc → List V
  | [] => []
  | t :: r => t.shape ++ Pc.shapes r
end
theorem Pc.shapes_len : ∀ {l : List Pc} {m : Nat}, (∀ a ∈ l, a.shape.length ≤ m ∧ a.nums.length ≤ m) → (Pc.shapes l).length ≤ l.length * m ∧ (Pc.numss l).length ≤ l.length * m
  | [], m, _ => ⟨Nat.zero_le _, Nat.zero_le _⟩
  | t :: r, m, h => by
    obtain ⟨a, b⟩ := h t (.head _)
    obtain ⟨c, d⟩ := Pc.shapes_len (l := r) (m := m) fun a ha => h a (.tail _ ha)
    simp only [Pc.shapes, Pc.numss, List.length_append, List.length_cons, Nat.succ_mul]
    omega
theorem Pc.len : ∀ {n : Nat} {p : Pc}, p.ok n → p.shape.length ≤ 4 ^ n ∧ p.nums.length ≤ 4 ^ n
  | n, .var _, _ => ⟨Nat.one_le_pow _ _ (by decide), Nat.one_le_pow _ _ (by decide)⟩
  | n, .leaf b, _ => ⟨Nat.one_le_pow _ _ (by decide), Nat.zero_le _⟩
  | n, .num _ _, _ => ⟨Nat.one_le_pow _ _ (by decide), Nat.one_le_pow _ _ (by decide)⟩
  | n, .bare _, _ => ⟨Nat.one_le_pow _ _ (by decide), Nat.zero_le _⟩
  | n + 1, .st k f as, ⟨h1, h2⟩ => by
    obtain ⟨a, b⟩ := Pc.shapes_len (l := as) (m := 4 ^ n) fun a ha => Pc.len (h2 a ha)
    have h0 : 1 ≤ 4 ^ n := Nat.one_le_pow _ _ (by decide)
    have h3 : as.length * 4 ^ n ≤ 3 * 4 ^ n := Nat.mul_le_mul_right _ h1
    simp only [Pc.shape, Pc.nums, List.length_cons, Nat.pow_succ]
    omega
  | n + 1, .uni l r, ⟨h1, h2⟩ => by
    obtain ⟨a, b⟩ := Pc.len h1
    obtain ⟨c, d⟩ := Pc.len h2
    have h0 : 1 ≤ 4 ^ n := Nat.one_le_pow _ _ (by decide)
    simp only [Pc.shape, Pc.nums, List.length_cons, List.length_append, Nat.pow_succ]
    omega
  | 0, .st _ _ _, h => h.elim
  | 0, .uni _ _, h => h.elim

theorem sok {s : Str} (h : PyData.strOk s = true) : PyData.canLay0 (.str s) = true := by simp only [PyData.canLay0]; exact h
theorem good_str (n : Nat) {s : Str} (h : PyData.canLay0 (.str s) = true) : RH.good n (.str s) = true := by cases n <;> exact h
theorem good_int (n : Nat) (i : Int) : RH.good n (.int i) = true := by cases n <;> rfl
theorem good_tup {n : Nat} {vs : List V} (h : ∀ v ∈ vs, RH.good n v = true) : RH.good (n + 1) (.tup vs) = true := List.all_eq_true.mpr h
theorem good_tup2 {n : Nat} {x y : V} (hx : RH.good n x = true) (hy : RH.good n y = true) : RH.good (n + 1) (.tup [x, y]) = true := good_tup fun v hv => by
  simp at hv
  rcases hv with rfl | rfl
  · exact hx
  · exact hy
theorem good_tup3 {n : Nat} {x y z : V} (hx : RH.good n x = true) (hy : RH.good n y = true) (hz : RH.good n z = true) : RH.good (n + 1) (.tup [x, y, z]) = true := good_tup fun v hv => by
  simp at hv
  rcases hv with rfl | rfl | rfl
  · exact hx
  · exact hy
  · exact hz
theorem numS_ok (k : Fin 3) : PyData.strOk (numS k) = true := by
  unfold numS
  split
  · decide +kernel
  · split <;> decide +kernel
theorem stS_ok (k : Fin 3) : PyData.strOk (stS k) = true := by
  unfold stS
  split
  · decide +kernel
  · split <;> decide +kernel
theorem bareS_ok (b : Bool) : PyData.strOk (bareS b) = true := by cases b <;> decide +kernel
theorem leaf_good (n : Nat) (b : Bool) : RH.good (n + 1) (leafV b) = true := by
  cases b
  · exact good_tup2 (good_str _ (sok (by decide +kernel))) (good_int _ _)
  · exact good_tup2 (good_str _ (sok (by decide +kernel))) (good_int _ _)
theorem Pc.good : ∀ (n : Nat) (t : Pc), t.ok n → RH.good (2 * n + 1) t.toV = true
  | n, .var i, _ => good_tup2 (good_str _ (sok (by decide +kernel))) (good_int _ _)
  | n, .leaf b, _ => leaf_good _ _
  | n, .num k i, _ => good_tup2 (good_str _ (sok (numS_ok k))) (good_int _ _)
  | n, .bare b, _ => good_tup (n := 2 * n) fun v hv => by
      simp at hv; subst hv
      exact good_str _ (sok (bareS_ok b))
  | n + 1, .st k f as, ⟨_, h⟩ => by
    refine good_tup3 (n := 2 * n + 2) (good_str _ (sok (stS_ok k))) (good_int _ _) (good_tup (n := 2 * n + 1) ?_)
    rw [Pc.toVs_map]
    intro v hv
    obtain ⟨a, ha, rfl⟩ := List.mem_map.mp hv
    exact Pc.good n a (h a ha)
  | n + 1, .uni l r, ⟨h1, h2⟩ => good_tup3 (n := 2 * n + 2) (good_str _ (sok (by decide +kernel))) (good_mono (Pc.good n l h1) (by omega)) (good_mono (Pc.good n r h2) (by omega))
  | 0, .st _ _ _, h => h.elim
  | 0, .uni _ _, h => h.elim

/-- a comprehension that draws things from the coins -/
theorem gen_CB {prog : Program} {w : World} {K : Frag} {c : Cx w K} {ρ : Loc} {τ : St} {env : Env} {α : Type} (tv : α → V) (okp : α → Prop) {x : Str} {elt : PySem.Expr} {D a L1 : Addr} {cs : List Int} {xs : List V} {Q : St → Prop}
    (hcell : τ L1 = some (.cell (some (.loc a)))) (hD : τ D = some (.list [])) (hDa : D ≠ a) (ha : τ a = some (.list (intl cs.reverse))) (hz : cs.length ≤ 1000000) (hxs : xs.length ≤ 1000)
    (step : ∀ (ρ2 : Loc) (σ2 : St) (cs' : List Int) (Q' : V → St → Prop), σ2 L1 = some (.cell (some (.loc a))) → σ2 a = some (.list (intl cs'.reverse)) → cs'.length ≤ 1000000 →
      (∀ (t : α) (cs2 : List Int) (σ3 : St), okp t → Keep [a] σ2 σ3 → σ3 a = some (.list (intl cs2.reverse)) → cs2.length ≤ cs'.length → Q' (tv t) σ3) → EV prog c (eval elt env) ρ2 σ2 Q')
    (done : ∀ (σ' : St) (ts : List α) (cs' : List Int), σ' D = some (.list (ts.map tv)) → Keep [D, a] τ σ' → σ' a = some (.list (intl cs'.reverse)) → cs'.length ≤ cs.length → (∀ t ∈ ts, okp t) → ts.length = xs.length → Q σ') :
    CB prog c x elt env (fun _ => True) D xs ρ τ Q := by
  have L1D : L1 ≠ D := fun z => by subst z; rw [hD] at hcell; cases hcell
  have L1a : L1 ≠ a := fun z => by subst z; rw [ha] at hcell; cases hcell
  refine CB_ind (fun vs ρ σ' => ∃ (ts : List α) (cs' : List Int), σ' D = some (.list (ts.map tv)) ∧ Keep [D, a] τ σ' ∧ σ' a = some (.list (intl cs'.reverse)) ∧ cs'.length ≤ cs.length ∧ (∀ t ∈ ts, okp t) ∧ ts.length + vs.length = xs.length) ?_ ?_
    ⟨[], cs, hD, .refl _ _, ha, Nat.le_refl _, by simp, by simp⟩
  · rintro v vs ρ2 σ2 ⟨ts, cs', hD2, k2, ha2, hcs, hts, hz2⟩
    refine step _ σ2 cs' _ (k2 _ _ hcell (by simp [L1D, L1a])) ha2 (by omega) fun t cs2 σ3 ht k3 ha3 hcs2 => ?_
    have hD3 := k3 _ _ hD2 (by simpa using hDa)
    simp at hz2
    refine ⟨_, hD3, by simp; omega, trivial, ts ++ [t], cs2, (upd_same _ _ _).trans (by simp), (k2.trans (k3.wide (by simp))).updIn (.head _) _, (upd_ne (Ne.symm hDa)).trans ha3, by omega, ?_, by simp; omega⟩
    intro t' ht'
    rcases List.mem_append.mp ht' with h' | h'
    · exact hts _ h'
    · simp at h'; exact h' ▸ ht
  · rintro ρ2 σ2 ⟨ts, cs', hD2, k2, ha2, hcs, hts, hz2⟩
    exact done σ2 ts cs' hD2 k2 ha2 hcs hts (by simpa using hz2)
theorem cells1 {σ : St} {L : PySem.Addr} {x : Option V} (hfr : ∀ a, L ≤ a → σ a = none) : Keep [] σ (upd σ (L + 1) (.cell x)) ∧ upd σ (L + 1) (.cell x) (L + 1) = some (.cell x) :=
  ⟨Keep.updNew (Keep.refl _ _) (hfr _ (Nat.le_succ _)) _, upd_same _ _ _⟩
end RH
namespace RH
open PySem PySem.W PySem.Calls PyProof.Rows
theorem stS_v (k : Fin 3) : (stS k == ("v" : Str)) = false := by unfold stS; split; decide; split <;> decide
theorem stS_u (k : Fin 3) : (stS k == ("unify" : Str)) = false := by unfold stS; split; decide; split <;> decide
theorem numS_v (k : Fin 3) : (numS k == ("v" : Str)) = false := by unfold numS; split; decide; split <;> decide
theorem numS_u (k : Fin 3) : (numS k == ("unify" : Str)) = false := by unfold numS; split; decide; split <;> decide
theorem bareS_v (b : Bool) : (bareS b == ("v" : Str)) = false := by cases b <;> decide
theorem bareS_u (b : Bool) : (bareS b == ("unify" : Str)) = false := by cases b <;> decide
def mclV : List V := [.str "mark", .str "cutto", .str "level"]
def mclD : List PyData := [.str "mark", .str "cutto", .str "level"]
theorem mcl_VD (σ : St) : VDs σ mclV mclD := .cons (.str _) (.cons (.str _) (.cons (.str _) .nil))
theorem mcl_lay : PyData.canLayAll0 mclD = true := by
  simp only [mclD, PyData.canLayAll0, PyData.canLay0]; decide +kernel
theorem okD_str {s : Str} (h : PyData.strOk s = true) : okD (.str s) = true := by simp [okD, PyData.canLay0, PyData.depth, h]
theorem mcl_num (k : Fin 3) : (mclD.any fun y => PyData.eqv y (.str (numS k))) = true := by
  simp only [mclD, List.any_cons, PyData.eqv, List.any_nil]
  unfold numS; split; decide; split <;> decide
theorem mcl_bare (b : Bool) : (mclD.any fun y => PyData.eqv y (.str (bareS b))) = false := by
  simp only [mclD, List.any_cons, PyData.eqv, List.any_nil]
  cases b <;> decide
def leafS (b : Bool) : Str := if b then "i" else "a"
def leafI (b : Bool) : Int := if b then 7 else 3
theorem leafV_eq (b : Bool) : leafV b = .tup [.str (leafS b), .int (leafI b)] := by cases b <;> rfl
theorem mcl_leaf (b : Bool) : (mclD.any fun y => PyData.eqv y (.str (leafS b))) = false := by
  simp only [mclD, List.any_cons, PyData.eqv, List.any_nil]
  cases b <;> decide
theorem leafS_v (b : Bool) : (leafS b == ("v" : Str)) = false := by cases b <;> decide
theorem leafS_u (b : Bool) : (leafS b == ("unify" : Str)) = false := by cases b <;> decide
theorem leafS_ok (b : Bool) : PyData.strOk (leafS b) = true := by cases b <;> decide +kernel
end RH
namespace RH
open PySem PySem.W PySem.Calls PyProof.Rows
def vmclV : List V := [.str "v", .str "mark", .str "cutto", .str "level"]
def vmclD : List PyData := [.str "v", .str "mark", .str "cutto", .str "level"]
theorem vmcl_VD (σ : St) : VDs σ vmclV vmclD := .cons (.str _) (.cons (.str _) (.cons (.str _) (.cons (.str _) .nil)))
theorem vmcl_lay : PyData.canLayAll0 vmclD = true := by
  simp only [vmclD, PyData.canLayAll0, PyData.canLay0]; decide +kernel
theorem vmcl_var : (vmclD.any fun y => PyData.eqv y (.str "v")) = true := by
  simp only [vmclD, List.any_cons, PyData.eqv, List.any_nil]; decide
theorem vmcl_num (k : Fin 3) : (vmclD.any fun y => PyData.eqv y (.str (numS k))) = true := by
  simp only [vmclD, List.any_cons, PyData.eqv, List.any_nil]
  unfold numS; split; decide; split <;> decide
theorem vmcl_st (k : Fin 3) : (vmclD.any fun y => PyData.eqv y (.str (stS k))) = false := by
  simp only [vmclD, List.any_cons, PyData.eqv, List.any_nil]
  unfold stS; split; decide; split <;> decide
theorem vmcl_uni : (vmclD.any fun y => PyData.eqv y (.str "unify")) = false := by
  simp only [vmclD, List.any_cons, PyData.eqv, List.any_nil]; decide
theorem vmcl_bare (b : Bool) : (vmclD.any fun y => PyData.eqv y (.str (bareS b))) = false := by
  simp only [vmclD, List.any_cons, PyData.eqv, List.any_nil]
  cases b <;> decide
theorem vmcl_leaf (b : Bool) : (vmclD.any fun y => PyData.eqv y (.str (leafS b))) = false := by
  simp only [vmclD, List.any_cons, PyData.eqv, List.any_nil]
  cases b <;> decide
def mov (tm pl : Int) (i : Int) : Int := i * tm + pl
theorem Pc.rens_map (g : Int → Int) (l : List Pc) : Pc.rens g l = l.map (Pc.ren g) := by
  induction l with
  | nil => rfl
  | cons t r ih => simp [Pc.rens, ih]
/-- a comprehension over the parts of a tuple -/
theorem map_CB {prog : Program} {w : World} {K : Frag} {c : Cx w K} {ρ : Loc} {τ : St} {env : Env} {α β : Type} (av : α → V) (bv : β → V) (f : α → β) {x : Str} {elt : PySem.Expr} {ok : St → Prop} {D : Addr} {as : List α} {Q : St → Prop}
    (hD : τ D = some (.list [])) (hxs : as.length ≤ 1000) (hok : ∀ σ', Keep [D] τ σ' → ok σ')
    (step : ∀ a ∈ as, ∀ (ρ2 : Loc) (σ2 : St) (Q' : V → St → Prop), Keep [D] τ σ2 → (∀ (σ3 : St), Keep [] σ2 σ3 → Q' (bv (f a)) σ3) → EV prog c (eval elt env) (lset ρ2 x (av a)) σ2 Q')
    (done : ∀ (σ' : St), σ' D = some (.list (as.map fun a => bv (f a))) → Keep [D] τ σ' → Q σ') :
    CB prog c x elt env ok D (as.map av) ρ τ Q := by
  refine CB_ind (fun vs ρ σ' => ∃ (p r : List α), p ++ r = as ∧ vs = r.map av ∧ σ' D = some (.list (p.map fun a => bv (f a))) ∧ Keep [D] τ σ') ?_ ?_ ⟨[], as, rfl, rfl, hD, .refl _ _⟩
  · rintro v vs ρ2 σ2 ⟨p, r, e, hv, hD2, k2⟩
    cases r with
    | nil => cases hv
    | cons a r =>
    cases hv
    subst e
    refine step a (by simp) _ σ2 _ k2 fun σ3 k3 => ?_
    have hD3 := k3 _ _ hD2 (by simp)
    have k4 : Keep [D] τ (upd σ3 D (.list ((p.map fun a => bv (f a)) ++ [bv (f a)]))) := (k2.trans (k3.wide (by simp))).updIn (.head _) _
    refine ⟨_, hD3, by simp at hxs ⊢; omega, hok _ k4, p ++ [a], r, by simp, rfl, (upd_same _ _ _).trans (by simp), k4⟩
  · rintro ρ2 σ2 ⟨p, r, e, hv, hD2, k2⟩
    cases r with
    | cons a r => cases hv
    | nil =>
      simp at e
      subst e
      exact done σ2 hD2 k2
end RH
set_option Elab.async false
set_option maxRecDepth 10000
set_option linter.all false
namespace RH
open PySem PySem.W PySem.Calls PyProof.Rows
/-- the frame above, if any -/
inductive Par (σ : St) (F D T : Addr) : List V → Option (Addr × List V) → Prop
  | top : Par σ F D T [] none
  | sub {D' : Addr} {dn : List V} {fs : List V} {w : V} : σ D' = some (.list dn) → D' ≠ D → D' ≠ F → D' ≠ T → dn.length ≤ 1000 → Par σ F D T (fs ++ [.tup [w, .loc D']]) (some (D', dn))
mutual
theorem rnS_keys : ∀ (p : Pc) (ks : List Int), (rnS p ks).2.length ≤ ks.length + p.nums.length
  | .var i, ks => touch_length ks i
  | .leaf b, ks => Nat.le_refl _
  | .st k f as, ks => rnSs_keys as ks
  | .uni l r, ks => by
    have a := rnS_keys l ks
    have b := rnS_keys r (rnS l ks).2
    simp only [rnS, Pc.nums, List.length_append]
    omega
  | .num k i, ks => touch_length ks i
  | .bare b, ks => Nat.le_refl _
theorem rnSs_keys : ∀ (l : List Pc) (ks : List Int), (rnSs l ks).2.length ≤ ks.length + (Pc.numss l).length
  | [], ks => Nat.le_refl _
  | t :: r, ks => by
    have a := rnS_keys t ks
    have b := rnSs_keys r (rnS t ks).2
    simp only [rnSs, Pc.numss, List.length_append]
    omega
end
theorem rnSs_len : ∀ (l : List Pc) (ks : List Int), (rnSs l ks).1.length = l.length
  | [], ks => rfl
  | t :: r, ks => by simp [rnSs, rnSs_len r]
theorem vidx_mid (l r : List V) (v : V) (h : l.length ≤ 1000) : vidx (l ++ v :: r) (l.length : Nat) = some v := by
  unfold vidx
  rw [if_neg (by omega), if_pos (by omega)]
  simp
theorem vidx_last (l : List V) (v : V) (h : l.length ≤ 1000000) : vidx (l ++ [v]) (-1) = some v := by
  unfold vidx
  have e : ((-1 : Int) + ((l ++ [v]).length : Nat)).toNat = l.length := by simp; omega
  rw [if_neg (by omega), if_neg (by omega), if_pos (by simp; omega), e]
  simp
end RH
set_option Elab.async false
set_option maxRecDepth 10000
set_option linter.all false
namespace RH
open PySem PySem.W PySem.Calls PyProof.Rows
theorem touch_pre (l : List Int) (k : Int) : l <+: touch l k := by
  unfold touch; split
  · exact List.prefix_refl _
  · exact List.prefix_append _ _
theorem fold_pre : ∀ (is ks : List Int), ks <+: is.foldl touch ks
  | [], ks => List.prefix_refl _
  | i :: is, ks => (touch_pre ks i).trans (fold_pre is (touch ks i))
theorem mem_touch {l : List Int} {k x : Int} (h : x ∈ touch l k) : x ∈ l ∨ x = k := by
  unfold touch at h; split at h
  · exact .inl h
  · simpa using h
theorem mem_fold : ∀ {is ks : List Int} {x : Int}, x ∈ is.foldl touch ks → x ∈ ks ∨ x ∈ is
  | [], ks, x, h => .inl h
  | i :: is, ks, x, h => by
    rcases mem_fold (is := is) h with h | h
    · rcases mem_touch h with h | h
      · exact .inl h
      · exact .inr (h ▸ .head _)
    · exact .inr (.tail _ h)
theorem in_fold : ∀ {is ks : List Int} {x : Int}, x ∈ is → x ∈ is.foldl touch ks
  | i :: is, ks, x, h => by
    rcases List.mem_cons.mp h with h | h
    · subst h
      exact (fold_pre is _).subset (touch_mem _ _)
    · exact in_fold (is := is) h
theorem ix_pre {l K : List Int} {i : Int} (h : i ∈ l) (p : l <+: K) : ix K i = ix l i := by
  obtain ⟨t, rfl⟩ := p
  unfold ix
  rw [List.idxOf_append, if_pos h]
mutual
theorem rnS_ks : ∀ (p : Pc) (ks : List Int), (rnS p ks).2 = p.nums.foldl touch ks
  | .var i, ks => rfl
  | .leaf b, ks => rfl
  | .st k f as, ks => rnSs_ks as ks
  | .uni l r, ks => by
    simp only [rnS, Pc.nums, List.foldl_append]
    rw [rnS_ks r, rnS_ks l]
  | .num k i, ks => rfl
  | .bare b, ks => rfl
theorem rnSs_ks : ∀ (l : List Pc) (ks : List Int), (rnSs l ks).2 = (Pc.numss l).foldl touch ks
  | [], ks => rfl
  | t :: r, ks => by
    simp only [rnSs, Pc.numss, List.foldl_append]
    rw [rnSs_ks r, rnS_ks t]
end
def idx (K : List Int) (i : Int) : Int := (ix K i : Nat)
mutual
theorem rnS_ren : ∀ (p : Pc) (ks K : List Int), (rnS p ks).2 <+: K → (rnS p ks).1 = p.ren (idx K)
  | .var i, ks, K, h => by
    simp only [rnS, Pc.ren, idx]
    rw [ix_pre (touch_mem _ _) h]
  | .leaf b, ks, K, h => rfl
  | .st k f as, ks, K, h => by
    simp only [rnS, Pc.ren]
    rw [rnSs_ren as ks K h]
  | .uni l r, ks, K, h => by
    simp only [rnS, Pc.ren]
    rw [rnS_ren r _ K h, rnS_ren l ks K (((rnS_ks r _ ▸ fold_pre _ _)).trans h)]
  | .num k i, ks, K, h => by
    simp only [rnS, Pc.ren, idx]
    rw [ix_pre (touch_mem _ _) h]
  | .bare b, ks, K, h => rfl
theorem rnSs_ren : ∀ (l : List Pc) (ks K : List Int), (rnSs l ks).2 <+: K → (rnSs l ks).1 = Pc.rens (idx K) l
  | [], ks, K, h => rfl
  | t :: r, ks, K, h => by
    simp only [rnSs, Pc.rens]
    rw [rnSs_ren r _ K h, rnS_ren t ks K ((rnSs_ks r _ ▸ fold_pre _ _).trans h)]
end
mutual
theorem nums_ren (g : Int → Int) : ∀ (p : Pc), (p.ren g).nums = p.nums.map g
  | .var i => rfl
  | .leaf b => rfl
  | .st k f as => numss_ren g as
  | .uni l r => by simp only [Pc.ren, Pc.nums, List.map_append, nums_ren g l, nums_ren g r]
  | .num k i => rfl
  | .bare b => rfl
theorem numss_ren (g : Int → Int) : ∀ (l : List Pc), Pc.numss (Pc.rens g l) = (Pc.numss l).map g
  | [] => rfl
  | t :: r => by simp only [Pc.rens, Pc.numss, List.map_append, nums_ren g t, numss_ren g r]
end
theorem rens_len (g : Int → Int) (l : List Pc) : (Pc.rens g l).length = l.length := by rw [Pc.rens_map, List.length_map]
mutual
theorem shape_ren (g : Int → Int) : ∀ (p : Pc), (p.ren g).shape = p.shape
  | .var i => rfl
  | .leaf b => rfl
  | .st k f as => by simp only [Pc.ren, Pc.shape, shapes_ren g as, rens_len]
  | .uni l r => by simp only [Pc.ren, Pc.shape, shape_ren g l, shape_ren g r]
  | .num k i => rfl
  | .bare b => rfl
theorem shapes_ren (g : Int → Int) : ∀ (l : List Pc), Pc.shapes (Pc.rens g l) = Pc.shapes l
  | [] => rfl
  | t :: r => by simp only [Pc.rens, Pc.shapes, shape_ren g t, shapes_ren g r]
end
theorem isT_ren (g : Int → Int) : ∀ {n : Nat} {p : Pc}, p.isT n → (p.ren g).isT n
  | n, .var i, h => by cases n <;> trivial
  | n, .leaf b, h => by cases n <;> trivial
  | n + 1, .st k f as, ⟨h0, h1, h2⟩ => by
    refine ⟨h0, by rw [rens_len]; exact h1, ?_⟩
    rw [Pc.rens_map]
    intro a ha
    obtain ⟨b, hb, rfl⟩ := List.mem_map.mp ha
    exact isT_ren g (h2 b hb)
  | 0, .st _ _ _, h => h.elim
  | 0, .uni _ _, h => h.elim
  | 0, .num _ _, h => h.elim
  | 0, .bare _, h => h.elim
  | _ + 1, .uni _ _, h => h.elim
  | _ + 1, .num _ _, h => h.elim
  | _ + 1, .bare _, h => h.elim
theorem isG_ren (g : Int → Int) {n : Nat} {p : Pc} (h : p.isG n) : (p.ren g).isG n := by
  cases p with
  | var i => exact h.elim
  | leaf b => exact h.elim
  | st k f as =>
    obtain ⟨h0, h1, h2⟩ := h
    refine ⟨h0, by rw [rens_len]; exact h1, ?_⟩
    rw [Pc.rens_map]
    intro a ha
    obtain ⟨b, hb, rfl⟩ := List.mem_map.mp ha
    exact isT_ren g (h2 b hb)
  | uni l r => exact ⟨isT_ren g h.1, isT_ren g h.2⟩
  | num k i => trivial
  | bare b => trivial
theorem touch_inj {g : Int → Int} {U : List Int} (hg : ∀ x ∈ U, ∀ y ∈ U, g x = g y → x = y) {ks : List Int} {i : Int} (hk : ∀ x ∈ ks, x ∈ U) (hi : i ∈ U) : touch (ks.map g) (g i) = (touch ks i).map g ∧ ix ((touch ks i).map g) (g i) = ix (touch ks i) i := by
  have hm : ∀ l : List Int, (∀ x ∈ l, x ∈ U) → (g i ∈ l.map g ↔ i ∈ l) := fun l hl => by
    refine ⟨fun h => ?_, fun h => List.mem_map_of_mem h⟩
    obtain ⟨y, hy, e⟩ := List.mem_map.mp h
    exact hg _ (hl _ hy) _ hi e ▸ hy
  refine ⟨?_, ?_⟩
  · unfold touch
    by_cases q : i ∈ ks
    · rw [if_pos q, if_pos ((hm ks hk).mpr q)]
    · rw [if_neg q, if_neg (fun h => q ((hm ks hk).mp h))]; simp
  · have key : ∀ l : List Int, (∀ x ∈ l, x ∈ U) → (l.map g).idxOf (g i) = l.idxOf i := by
      intro l
      induction l with
      | nil => intro _; rfl
      | cons x r ih =>
        intro hl
        rw [List.map_cons, List.idxOf_cons, List.idxOf_cons, ih fun y hy => hl y (.tail _ hy)]
        have : (g x == g i) = (x == i) := by
          by_cases q : x = i
          · subst q; simp
          · have : g x ≠ g i := fun e => q (hg _ (hl _ (.head _)) _ hi e)
            rw [beq_eq_false_iff_ne.mpr this, beq_eq_false_iff_ne.mpr q]
        rw [this]
    exact key _ fun x hx => (mem_touch hx).elim (hk x) fun e => e ▸ hi
mutual
theorem rnS_inj {g : Int → Int} {U : List Int} (hg : ∀ x ∈ U, ∀ y ∈ U, g x = g y → x = y) : ∀ (p : Pc) (ks : List Int), (∀ x ∈ ks, x ∈ U) → (∀ x ∈ p.nums, x ∈ U) → rnS (p.ren g) (ks.map g) = ((rnS p ks).1, (rnS p ks).2.map g)
  | .var i, ks, hk, hp => by
    obtain ⟨a, b⟩ := touch_inj hg hk (hp i (.head _))
    simp only [rnS, Pc.ren, a, b]
  | .leaf b, ks, hk, hp => rfl
  | .st k f as, ks, hk, hp => by
    simp only [rnS, Pc.ren]
    rw [rnSs_inj hg as ks hk hp]
  | .uni l r, ks, hk, hp => by
    simp only [Pc.nums, List.mem_append] at hp
    simp only [rnS, Pc.ren]
    rw [rnS_inj hg l ks hk fun x hx => hp x (.inl hx)]
    simp only
    rw [rnS_inj hg r _ (fun x hx => ?_) fun x hx => hp x (.inr hx)]
    rw [rnS_ks] at hx
    exact (mem_fold hx).elim (hk x) fun h => hp x (.inl h)
  | .num k i, ks, hk, hp => by
    obtain ⟨a, b⟩ := touch_inj hg hk (hp i (.head _))
    simp only [rnS, Pc.ren, a, b]
  | .bare b, ks, hk, hp => rfl
theorem rnSs_inj {g : Int → Int} {U : List Int} (hg : ∀ x ∈ U, ∀ y ∈ U, g x = g y → x = y) : ∀ (l : List Pc) (ks : List Int), (∀ x ∈ ks, x ∈ U) → (∀ x ∈ Pc.numss l, x ∈ U) → rnSs (Pc.rens g l) (ks.map g) = ((rnSs l ks).1, (rnSs l ks).2.map g)
  | [], ks, hk, hp => rfl
  | t :: r, ks, hk, hp => by
    simp only [Pc.numss, List.mem_append] at hp
    simp only [rnSs, Pc.rens]
    rw [rnS_inj hg t ks hk fun x hx => hp x (.inl hx)]
    simp only
    rw [rnSs_inj hg r _ (fun x hx => ?_) fun x hx => hp x (.inr hx)]
    rw [rnS_ks] at hx
    exact (mem_fold hx).elim (hk x) fun h => hp x (.inl h)
end
theorem numss_append : ∀ (a b : List Pc), Pc.numss (a ++ b) = Pc.numss a ++ Pc.numss b
  | [], b => rfl
  | t :: r, b => by simp only [List.cons_append, Pc.numss, numss_append r b, List.append_assoc]
theorem shapes_append : ∀ (a b : List Pc), Pc.shapes (a ++ b) = Pc.shapes a ++ Pc.shapes b
  | [], b => rfl
  | t :: r, b => by simp only [List.cons_append, Pc.shapes, shapes_append r b, List.append_assoc]
/-- the keys of a clause -/
def keysOf (as gs : List Pc) : List Int := (Pc.numss (as ++ gs)).foldl touch []
theorem keysOf_eq (as gs : List Pc) : (rnSs gs (rnSs as []).2).2 = keysOf as gs := by
  rw [rnSs_ks, rnSs_ks, ← List.foldl_append, ← numss_append]; rfl
theorem fin_args (as gs : List Pc) : (rnSs as []).1 = Pc.rens (idx (keysOf as gs)) as := by
  refine rnSs_ren as [] _ ?_
  rw [← keysOf_eq, rnSs_ks gs]
  exact fold_pre _ _
theorem fin_goals (as gs : List Pc) : (rnSs gs (rnSs as []).2).1 = Pc.rens (idx (keysOf as gs)) gs := by
  refine rnSs_ren gs _ _ ?_
  rw [keysOf_eq]
  exact List.prefix_refl _
/-- a renaming changes nothing -/
theorem fin_inj {g : Int → Int} (as gs : List Pc) (hg : ∀ x ∈ Pc.numss (as ++ gs), ∀ y ∈ Pc.numss (as ++ gs), g x = g y → x = y) :
    (rnSs (Pc.rens g as) []).1 = (rnSs as []).1 ∧ (rnSs (Pc.rens g gs) (rnSs (Pc.rens g as) []).2).1 = (rnSs gs (rnSs as []).2).1 ∧ (rnSs (Pc.rens g gs) (rnSs (Pc.rens g as) []).2).2.length = (rnSs gs (rnSs as []).2).2.length := by
  have e1 := rnSs_inj hg as [] (by simp) (fun x hx => by rw [numss_append]; exact List.mem_append_left _ hx)
  rw [List.map_nil] at e1
  have e2 := rnSs_inj hg gs (rnSs as []).2 (fun x hx => by
    rw [rnSs_ks] at hx
    rw [numss_append]
    exact List.mem_append_left _ ((mem_fold hx).elim (fun h => by cases h) id)) (fun x hx => by rw [numss_append]; exact List.mem_append_right _ hx)
  rw [e1]
  simp only
  rw [e2]
  simp
theorem idx_inj (as gs : List Pc) : ∀ x ∈ Pc.numss (as ++ gs), ∀ y ∈ Pc.numss (as ++ gs), idx (keysOf as gs) x = idx (keysOf as gs) y → x = y := by
  intro x hx y hy e
  have hx' : x ∈ keysOf as gs := in_fold hx
  have hy' : y ∈ keysOf as gs := in_fold hy
  unfold idx ix at e
  have e' : (keysOf as gs).idxOf x = (keysOf as gs).idxOf y := by omega
  have a := List.idxOf_lt_length_of_mem hx'
  have b := List.idxOf_lt_length_of_mem hy'
  have ax : (keysOf as gs)[(keysOf as gs).idxOf x] = x := List.getElem_idxOf a
  have bx : (keysOf as gs)[(keysOf as gs).idxOf y] = y := List.getElem_idxOf b
  rw [← ax, ← bx]
  congr 1
theorem mov_inj {tm pl : Int} (h : tm ≠ 0) (x y : Int) (e : mov tm pl x = mov tm pl y) : x = y := by
  unfold mov at e
  exact Int.eq_of_mul_eq_mul_right h (by omega)
end RH
set_option Elab.async false
set_option maxRecDepth 100000
set_option maxHeartbeats 4000000
set_option linter.all false
namespace RH
open PySem PySem.W PySem.Calls PyProof.Rows
section
variable {prog : Program} {w : World} {c : Cx w (hd1.heap_39 w.params)} {ρ : Loc} {σ : St} {Q : V → St → Prop}
theorem c_coin {d : Nat} (hd : d + 1 = c.d) (hdd : 100 ≤ d) {a : Addr} {n : Int} {cs : List Int} (hn : n ≠ 0) (hz : cs.length ≤ 1000000) (ha : σ a = some (.list (intl cs.reverse)))
   (h : ∀ σ', Keep [a] σ σ' → σ' a = some (.list (intl cs.tail.reverse)) → Q (.int (coin cs n)) σ') :
   CF prog c 415 [.loc a, .int n] ρ σ Q := by
  refine CF_K (names := ["coins", "sides"]) (hl := rfl) hd rfl rfl (all2 fun a b => by kernel_rfl) rfl (by decide) (by decide) (by decide) rfl rfl rfl fun c' hd' he => ?_
  refine EX_cons (EX_Return (EV_IfExp (TR_Compare rfl (EV_local he rfl rfl rfl (EV_List (EVs_nil ⟨by decide, fun b hb => ?_⟩))))))
  have hab := neF ha hb
  refine OP_neD (by omega) (.loc (by rw [upd_ne hab]; exact ha) (VDs_intl _ _)) (.loc (upd_same _ _ _) .nil) (okD_intl _) (by decide) ⟨_, rfl, ?_⟩
  cases cs with
  | nil => 
    refine EV_int ?_
    refine h _ (Keep.updNew (Keep.refl _ _) hb _) (by rw [upd_ne hab]; exact ha)
  | cons x cs =>
    have e : (!PyData.eqv (.list ((x :: cs).reverse.map PyData.int)) (.list [])) = true := by
      cases q : (x :: cs).reverse with
      | nil => simp at q
      | cons y r => simp [PyData.eqv, PyData.eqvAll]
    rw [e]
    refine EV_BinOp (EV_pop rfl rfl (EV_local he rfl rfl rfl ⟨a, intl cs.reverse, .int x, rfl, ?_, ?_, EV_local he rfl rfl rfl (OP_mod hn (h _ ?_ ?_))⟩))
    · rw [upd_ne hab, ha]; simp [intl]
    · simp [intl] at hz ⊢; omega
    · exact Keep.updIn (Keep.updNew (Keep.refl _ _) hb _) (.head _) _
    · exact upd_same _ _ _
theorem c_coins {d : Nat} (hd : d + 1 = c.d) (hdd : 100 ≤ d) {x : Addr} {xs : List Int} (hz : xs.length ≤ 1000000) (hx : σ x = some (.list (intl xs)))
   (h : ∀ b cs σ', σ b = none → Keep [] σ σ' → σ' b = some (.list (intl cs)) → cs.length ≤ 1000 → Q (.loc b) σ') :
   CF prog c 408 [.loc x] ρ σ Q := by
  refine CF_K (names := ["script"]) (hl := rfl) hd rfl rfl (all1 fun a => by kernel_rfl) rfl (by decide) (by decide) (by decide) rfl rfl rfl fun c' hd' he => ?_
  refine EX_cons (EX_Name he rfl rfl (EV_List (EVs_nil ⟨by decide, fun a ha => ?_⟩)))
  have hxa := neF hx ha
  refine EX_cons (EX_For he rfl (fun _ => rfl) (EV_Upto (fun _ _ => rfl) (EV_local he rfl rfl rfl (EV_int ⟨x, intl xs, 60, rfl, (upd_ne hxa).trans hx, by simp [intl]; exact hz, rfl, by decide, fun D hD => ?_⟩))))
  refine ⟨_, _, .list (upd_same _ _ _), ?_⟩
  have haD := neF (upd_same _ _ _) hD
  have hDx : σ D = none := (upd_ne (Ne.symm haD)).symm.trans hD
  refine FB_run (fun vs ρ σ' => Sub [("coins", .loc a)] ρ ∧ Keep [a] (upd (upd σ a (.list [])) D (.list ((intl xs).take 60))) σ' ∧ (∃ cs, σ' a = some (.list (intl cs)) ∧ cs.length ≤ 90) ∧ ∃ l, vs = intl l)
    (fun ρ σ' => Sub [("coins", .loc a)] ρ ∧ Keep [a] (upd (upd σ a (.list [])) D (.list ((intl xs).take 60))) σ' ∧ ∃ cs, σ' a = some (.list (intl cs)) ∧ cs.length ≤ 110) ?_ ?_ ?_ ⟨.cons rfl .nil, .refl _ _, ⟨[], (upd_ne haD).trans (upd_same _ _ _), by decide⟩, xs.take 60, by simp [intl]⟩
  · rintro v vs ρ₁ σ₁ ⟨hs, hk, ⟨cs, ha1, hcs⟩, l, hl⟩
    cases l with
    | nil => cases hl
    | cons i l =>
    cases hl
    refine EX.sub (ρ' := lset [("coins", .loc a)] "cell" (.int i)) (Sub.both hs) ?_
    refine EX_cons (EX_Name he rfl rfl (EV_bcall (x := "abs") he rfl rfl rfl rfl (by decide) rfl rfl rfl (EVs_cons rfl (EV_local he rfl rfl rfl (EVs_nil (OP_abs ?_))))))
    refine EX_cons (EX_For he rfl (fun _ => rfl) (EV_tcall (x := "range") he rfl rfl rfl rfl (by decide) rfl rfl rfl (EVs_cons rfl (EV_int (EVs_nil (OP_range fun r t u v hr => ?_))))))
    refine ⟨_, _, .range (n := 20) (by decide) (upd_same _ _ _), ?_⟩
    have har := neF ha1 hr
    refine FB_run (fun vs ρ σ' => Sub [("coins", .loc a)] ρ ∧ (∃ j, lget ρ "left" = some (.int j)) ∧ Keep [a] (upd (upd σ a (.list [])) D (.list ((intl xs).take 60))) σ' ∧ ∃ cs, σ' a = some (.list (intl cs)) ∧ cs.length + vs.length ≤ 110)
      (fun ρ σ' => Sub [("coins", .loc a)] ρ ∧ Keep [a] (upd (upd σ a (.list [])) D (.list ((intl xs).take 60))) σ' ∧ ∃ cs, σ' a = some (.list (intl cs)) ∧ cs.length ≤ 110) ?_ ?_ ?_
      ⟨.cons rfl .nil, ⟨_, rfl⟩, Keep.updNew hk hr _, cs, (upd_ne har).trans ha1, by simp [rangeV]; omega⟩
    · rintro v vs ρ₂ σ₂ ⟨hs, ⟨j, hj⟩, hk, cs, ha2, hcs⟩
      simp at hcs
      refine EX.sub (ρ' := [("coins", .loc a), ("left", .int j)]) (Sub.miss (.cons (hs _ _ rfl) (.cons hj .nil)) rfl) ?_
      refine EX_cons (EX_Expr rfl rfl (EV_append rfl rfl rfl rfl rfl (EV_local he rfl rfl rfl ⟨a, rfl, ⟨_, ha2⟩, EV_BinOp (EV_local he rfl rfl rfl (EV_int (OP_mod (by decide) ⟨_, ha2, by simp [intl]; omega, ?_⟩)))⟩)))
      refine EX_cons (EX_Name he rfl rfl (EV_BinOp (EV_local he rfl rfl rfl (EV_int (OP_fdiv (by decide) (PyProof.noPylong_small (by decide)) ?_)))))
      have e : intl cs ++ [V.int (j.fmod 1000)] = intl (cs ++ [j.fmod 1000]) := by simp [intl]
      rw [e]
      have hk3 := Keep.updIn hk (.head _) (.list (intl (cs ++ [j.fmod 1000])))
      refine EX_cons (EX_If (TR_Compare rfl (EV_local he rfl rfl rfl (EV_int (OP_eq ⟨_, rfl, ?_⟩)))))
      split
      · exact EX_cons (EX_Break ⟨rfl, .cons rfl .nil, hk3, _, upd_same _ _ _, by simp; omega⟩)
      · exact EX_nil (EX_nil ⟨trivial, .cons rfl .nil, ⟨_, rfl⟩, hk3, _, upd_same _ _ _, by simp; omega⟩)
    · rintro ρ σ' ⟨h1, _, h2, cs, h3, h4⟩
      exact ⟨h1, h2, cs, h3, h4⟩
    · rintro ρ₂ σ₂ ⟨hs, hk, cs, ha2, hcs⟩
      refine EX.sub hs ?_
      refine EX_cons (EX_If (TR_Compare rfl (EV_bcall (x := "len") he rfl rfl rfl rfl (by decide) rfl rfl rfl (EVs_cons rfl (EV_local he rfl rfl rfl (EVs_nil (OP_len_list ha2 (by simp [intl]; omega) (EV_int (OP_gt ⟨_, rfl, ?_⟩)))))))))
      split
      · exact EX_cons (EX_Break ⟨rfl, .cons rfl .nil, hk, cs, ha2, hcs⟩)
      · rename_i hn
        refine EX_nil (EX_nil ⟨hk D _ (upd_same _ _ _) (by simp [Ne.symm haD]), .cons rfl .nil, hk, ⟨cs, ha2, ?_⟩, l, rfl⟩)
        simp [intl] at hn
        omega
  · rintro ρ σ' ⟨h1, h2, ⟨cs, h3, h4⟩, _⟩
    exact ⟨h1, h2, cs, h3, by omega⟩
  · rintro ρ₂ σ₂ ⟨hs, hk, cs, ha2, hcs⟩
    refine EX.sub hs ?_
    refine EX_cons (EX_Expr rfl rfl (EV_reverse rfl rfl (EV_local he rfl rfl rfl ⟨a, _, rfl, ha2, by simp [intl]; omega, ?_⟩)))
    refine EX_cons (EX_Return (EV_local he rfl rfl rfl ?_))
    refine h a cs.reverse _ ha (Keep.drop (Keep.updIn (fun b o e n => hk b o ?_ n) (.head _) _) ha) ((upd_same _ _ _).trans (by simp [intl])) (by simp; omega)
    exact (Keep.updNew (Keep.updNew (Keep.refl [] σ) ha _) hD _) b o e (by simp)

theorem cls_sym : ClsOk (hd1.heap_39 w.params) 122 := ⟨rfl, rfl, rfl, rfl⟩
theorem at_sym1 : AttrOk (hd1.heap_39 w.params) 122 "texts" := ⟨rfl, rfl⟩
theorem at_sym2 : AttrOk (hd1.heap_39 w.params) 122 "atom_numbers" := ⟨rfl, rfl⟩
theorem at_sym3 : AttrOk (hd1.heap_39 w.params) 122 "functors" := ⟨rfl, rfl⟩
theorem at_sym4 : AttrOk (hd1.heap_39 w.params) 122 "functor_numbers" := ⟨rfl, rfl⟩
theorem me_atom : MethOk (hd1.heap_39 w.params) 122 "atom" 56 := ⟨rfl, rfl⟩
theorem me_func : MethOk (hd1.heap_39 w.params) 122 "func" 77 := ⟨rfl, rfl⟩
theorem me_functor : MethOk (hd1.heap_39 w.params) 122 "functor" 70 := ⟨rfl, rfl⟩
theorem c_atom {d : Nat} (hd : d + 1 = c.d) {x dx a1 a2 a3 a4 : Addr} {ts : List Str} {fs : List (List Int)} (hA : SyA σ x dx a1 a2 a3 a4 ts fs) (hz : ts.length ≤ 900000) (t : Str)
   (h : ∀ σ', Keep [a1, a2] σ σ' → SyA σ' x dx a1 a2 a3 a4 (touch ts t) fs → Q (.int (ix (touch ts t) t : Nat)) σ') :
   CF prog c 56 [.loc x, .str t] ρ σ Q := by
  refine CF_K (names := ["self", "text"]) (hl := rfl) hd rfl rfl (all2 fun a b => by kernel_rfl) rfl (by decide) (by decide) (by decide) rfl rfl rfl fun c' hd' he => ?_
  refine EX_cons (EX_Name he rfl rfl (EV_get rfl rfl rfl rfl rfl rfl (EV_attr rfl (EV_local he rfl rfl rfl ⟨x, 122, dx, _, _, rfl, hA.x, hA.ns, cls_sym, at_sym2, rfl, a2, rfl, .inr (.inl ⟨_, hA.o2⟩), EV_local he rfl rfl rfl (EV_UnaryOp (EV_int (OP_neg (OP_getS hA.o2 ?_))))⟩))))
  rw [kget_numb]
  refine EX_cons (EX_If (TR_Compare rfl (EV_local he rfl rfl rfl (EV_int ?_))))
  by_cases q : t ∈ ts
  · rw [if_pos q]
    refine OP_ge ⟨_, rfl, ?_⟩
    rw [if_pos (by simp)]
    have e : touch ts t = ts := if_pos q
    have r := h σ (Keep.refl _ _) (by rw [e]; exact hA)
    rw [e] at r
    exact EX_cons (EX_Return (EV_local he rfl rfl rfl r))
  · rw [if_neg q]
    have e : touch ts t = ts ++ [t] := if_neg q
    refine OP_ge ⟨_, rfl, ?_⟩
    rw [if_neg (by simp)]
    refine EX_nil ?_
    refine EX_cons (EX_Name he rfl rfl (EV_bcall (x := "len") he rfl rfl rfl rfl (by decide) rfl rfl rfl (EVs_cons rfl (EV_attr rfl (EV_local he rfl rfl rfl ⟨x, 122, dx, _, _, rfl, hA.x, hA.ns, cls_sym, at_sym1, rfl, EVs_nil (OP_len_list hA.o1 (by simp; omega) ?_)⟩)))))
    refine EX_cons (EX_Expr rfl rfl (EV_append rfl rfl rfl rfl rfl (EV_attr rfl (EV_local he rfl rfl rfl ⟨x, 122, dx, _, _, rfl, hA.x, hA.ns, cls_sym, at_sym1, rfl, a1, rfl, ⟨_, hA.o1⟩, EV_local he rfl rfl rfl ⟨_, hA.o1, by simp; omega, ?_⟩⟩))))
    have n1 : ∀ {b : Addr} {o : AO}, σ b = some o → o ≠ .list (ts.map V.str) → b ≠ a1 := fun hb hn z => by subst z; rw [hA.o1] at hb; cases hb; exact hn rfl
    have n2 : ∀ {b : Addr} {o : AO}, σ b = some o → o ≠ .dictS (numb ts) → b ≠ a2 := fun hb hn z => by subst z; rw [hA.o2] at hb; cases hb; exact hn rfl
    have k1 : upd σ a1 (.list (ts.map V.str ++ [.str t])) a2 = some (.dictS (numb ts)) := (upd_ne (n1 hA.o2 (by simp))).trans hA.o2
    refine EX_cons (EX_Set rfl (EV_local he rfl rfl rfl (EV_attr rfl (EV_local he rfl rfl rfl ⟨x, 122, dx, _, _, rfl, (upd_ne (n1 hA.x (by simp))).trans hA.x, (upd_ne (n1 hA.ns (by simp))).trans hA.ns, cls_sym, at_sym2, rfl, EV_local he rfl rfl rfl ⟨a2, _, .s k1 (by rw [numb_length]; omega), ?_⟩⟩))))
    refine EX_cons (EX_Return (EV_local he rfl rfl rfl ?_))
    have r := h (upd (upd σ a1 (.list (ts.map V.str ++ [.str t]))) a2 (.dictS (kset (numb ts) t (.int (ts.length : Nat)))))
      (Keep.updIn (Keep.updIn (Keep.refl _ _) (by simp) _) (by simp) _) ?_
    · rw [e, ix_snoc q] at r
      simp only [List.length_map]
      exact r
    · rw [e]
      try simp only [List.length_map]
      rw [kset_numb q]
      exact ⟨(upd_ne (n2 hA.x (by simp))).trans ((upd_ne (n1 hA.x (by simp))).trans hA.x), (upd_ne (n2 hA.ns (by simp))).trans ((upd_ne (n1 hA.ns (by simp))).trans hA.ns),
        (upd_ne (n2 hA.o1 (by simp))).trans ((upd_same _ _ _).trans (by simp)), upd_same _ _ _, (upd_ne (n2 hA.o3 (by simp))).trans ((upd_ne (Ne.symm hA.ne)).trans hA.o3), (upd_ne (n2 hA.o4 (by simp))).trans ((upd_ne (n1 hA.o4 (by simp))).trans hA.o4), hA.ne⟩
theorem c_functor {d : Nat} (hd : d + 1 = c.d) (hdd : 100 ≤ d) {x dx a1 a2 a3 a4 : Addr} {ts : List Str} {fs : List (List Int)} (hA : SyA σ x dx a1 a2 a3 a4 ts fs) (hz : fs.length ≤ 900000) (a n : Int)
   (h : ∀ σ', Keep [a3, a4] σ σ' → SyA σ' x dx a1 a2 a3 a4 ts (touch fs [a, n]) → Q (.int (ix (touch fs [a, n]) [a, n] : Nat)) σ') :
   CF prog c 70 [.loc x, .int a, .int n] ρ σ Q := by
  refine CF_K (names := ["self", "atom", "arity"]) (hl := rfl) hd rfl rfl (all3 fun a b c => by kernel_rfl) rfl (by decide) (by decide) (by decide) rfl rfl rfl fun c' hd' he => ?_
  have hu : c'.A.units + 1 < cLine := by have := c'.roomy (by omega); omega
  refine EX_cons (EX_Name he rfl rfl (EV_Tuple (EVs_cons rfl (EV_local he rfl rfl rfl (EVs_cons rfl (EV_local he rfl rfl rfl (EVs_nil ⟨by simp, ?_⟩)))))))
  refine EX_cons (EX_Name he rfl rfl (EV_get rfl rfl rfl rfl rfl rfl (EV_attr rfl (EV_local he rfl rfl rfl ⟨x, 122, dx, _, _, rfl, hA.x, hA.ns, cls_sym, at_sym4, rfl, a4, rfl, .inr (.inr ⟨_, hA.o4⟩), EV_local he rfl rfl rfl (EV_UnaryOp (EV_int (OP_neg (OP_getT (k := [a, n]) hu hA.o4 ?_))))⟩))))
  rw [kget_numb]
  refine EX_cons (EX_If (TR_Compare rfl (EV_local he rfl rfl rfl (EV_int ?_))))
  by_cases q : [a, n] ∈ fs
  · rw [if_pos q]
    refine OP_ge ⟨_, rfl, ?_⟩
    rw [if_pos (by simp)]
    have e : touch fs [a, n] = fs := if_pos q
    have r := h σ (Keep.refl _ _) (by rw [e]; exact hA)
    rw [e] at r
    exact EX_cons (EX_Return (EV_local he rfl rfl rfl r))
  · rw [if_neg q]
    have e : touch fs [a, n] = fs ++ [[a, n]] := if_neg q
    refine OP_ge ⟨_, rfl, ?_⟩
    rw [if_neg (by simp)]
    refine EX_nil ?_
    refine EX_cons (EX_Name he rfl rfl (EV_bcall (x := "len") he rfl rfl rfl rfl (by decide) rfl rfl rfl (EVs_cons rfl (EV_attr rfl (EV_local he rfl rfl rfl ⟨x, 122, dx, _, _, rfl, hA.x, hA.ns, cls_sym, at_sym3, rfl, EVs_nil (OP_len_list hA.o3 (by simp; omega) ?_)⟩)))))
    refine EX_cons (EX_Expr rfl rfl (EV_append rfl rfl rfl rfl rfl (EV_attr rfl (EV_local he rfl rfl rfl ⟨x, 122, dx, _, _, rfl, hA.x, hA.ns, cls_sym, at_sym3, rfl, a3, rfl, ⟨_, hA.o3⟩, EV_local he rfl rfl rfl ⟨_, hA.o3, by simp; omega, ?_⟩⟩))))
    have n1 : ∀ {b : Addr} {o : AO}, σ b = some o → o ≠ .list (fs.map fun k => .tup (k.map V.int)) → b ≠ a3 := fun hb hn z => by subst z; rw [hA.o3] at hb; cases hb; exact hn rfl
    have n2 : ∀ {b : Addr} {o : AO}, σ b = some o → o ≠ .dictT (numb fs) → b ≠ a4 := fun hb hn z => by subst z; rw [hA.o4] at hb; cases hb; exact hn rfl
    have k1 : upd σ a3 (.list ((fs.map fun k => .tup (k.map V.int)) ++ [.tup [.int a, .int n]])) a4 = some (.dictT (numb fs)) := (upd_ne (n1 hA.o4 (by simp))).trans hA.o4
    refine EX_cons (EX_Set rfl (EV_local he rfl rfl rfl (EV_attr rfl (EV_local he rfl rfl rfl ⟨x, 122, dx, _, _, rfl, (upd_ne (n1 hA.x (by simp))).trans hA.x, (upd_ne (n1 hA.ns (by simp))).trans hA.ns, cls_sym, at_sym4, rfl, EV_local he rfl rfl rfl ⟨a4, _, .t (k := [a, n]) hu k1 (by rw [numb_length]; omega), ?_⟩⟩))))
    refine EX_cons (EX_Return (EV_local he rfl rfl rfl ?_))
    have r := h (upd (upd σ a3 (.list ((fs.map fun k => .tup (k.map V.int)) ++ [.tup [.int a, .int n]]))) a4 (.dictT (kset (numb fs) [a, n] (.int (fs.length : Nat)))))
      (Keep.updIn (Keep.updIn (Keep.refl _ _) (by simp) _) (by simp) _) ?_
    · rw [e, ix_snoc q] at r
      simp only [List.length_map]
      exact r
    · rw [e]
      try simp only [List.length_map]
      rw [kset_numb q]
      exact ⟨(upd_ne (n2 hA.x (by simp))).trans ((upd_ne (n1 hA.x (by simp))).trans hA.x), (upd_ne (n2 hA.ns (by simp))).trans ((upd_ne (n1 hA.ns (by simp))).trans hA.ns),
        (upd_ne (n2 hA.o1 (by simp))).trans ((upd_ne hA.ne).trans hA.o1), (upd_ne (n2 hA.o2 (by simp))).trans ((upd_ne (n1 hA.o2 (by simp))).trans hA.o2), (upd_ne (n2 hA.o3 (by simp))).trans ((upd_same _ _ _).trans (by simp)), upd_same _ _ _, hA.ne⟩
theorem c_func {d : Nat} (hd : d + 2 = c.d) (hdd : 100 ≤ d) {x dx a1 a2 a3 a4 : Addr} {ts : List Str} {fs : List (List Int)} (hA : SyA σ x dx a1 a2 a3 a4 ts fs) (hz : fs.length ≤ 900000) (hz' : ts.length ≤ 900000) (t : Str) (n : Int)
   (h : ∀ σ', Keep [a1, a2, a3, a4] σ σ' → SyA σ' x dx a1 a2 a3 a4 (symStep (ts, fs) (t, n)).1 (symStep (ts, fs) (t, n)).2 → Q (.int (ix (symStep (ts, fs) (t, n)).2 [(ix (touch ts t) t : Nat), n] : Nat)) σ') :
   CF prog c 77 [.loc x, .str t, .int n] ρ σ Q := by
  refine CF_K (names := ["self", "text", "arity"]) (hl := rfl) (d := d + 1) hd rfl rfl (all3 fun a b c => by kernel_rfl) rfl (by decide) (by decide) (by decide) rfl rfl rfl fun c' hd' he => ?_
  refine EX_cons (EX_Return (EV_meth rfl rfl rfl (EV_local he rfl rfl rfl ⟨x, 122, dx, _, 70, rfl, hA.x, hA.ns, cls_sym, me_functor, rfl, EVs_cons rfl (EV_meth rfl rfl rfl (EV_local he rfl rfl rfl ⟨x, 122, dx, _, 56, rfl, hA.x, hA.ns, cls_sym, me_atom, rfl, EVs_cons rfl (EV_local he rfl rfl rfl (EVs_nil ⟨.inl rfl, ?_⟩))⟩))⟩)))
  refine c_atom hd'.symm hA hz' t fun σ1 k1 hA1 => ?_
  refine EVs_cons rfl (EV_local he rfl rfl rfl (EVs_nil ⟨.inl rfl, ?_⟩))
  refine c_functor hd'.symm hdd hA1 hz _ n fun σ2 k2 hA2 => ?_
  exact h σ2 ((k1.wide (by simp)).trans (k2.wide (by simp))) hA2
theorem close_eq {x y : V} (e : x = y) (h : Q x σ) : Q y σ := e ▸ h
theorem c_fixed_atoms {d : Nat} (hd : d + 1 = c.d) (h : Q (.tup ((atomsB (bodyAt (hd1.heap_39 w.params) 28)).map V.str)) σ) : CF prog c 28 [] ρ σ Q := by
  refine CF_K (names := []) (hl := rfl) hd rfl rfl (all0 (by kernel_rfl)) rfl (by decide) (by decide) (by decide) rfl rfl rfl fun c' hd' he => ?_
  refine EX_cons ?_
  refine EX_Return ?_
  refine EV_Tuple ?_
  repeat refine EVs_str ?_
  refine EVs_nil ⟨by decide, ?_⟩
  show Q (V.tup _) σ
  refine close_eq ?_ h
  kernel_rfl
theorem c_fixed_functors {d : Nat} (hd : d + 1 = c.d) (h : Q (.tup ((rowsB (bodyAt (hd1.heap_39 w.params) 35)).map rowV)) σ) : CF prog c 35 [] ρ σ Q := by
  refine CF_K (names := []) (hl := rfl) hd rfl rfl (all0 (by kernel_rfl)) rfl (by decide) (by decide) (by decide) rfl rfl rfl fun c' hd' he => ?_
  refine EX_cons ?_
  refine EX_Return ?_
  refine EV_Tuple ?_
  repeat refine EVs_row ?_
  refine EVs_nil ⟨by decide, ?_⟩
  show Q (V.tup _) σ
  refine close_eq ?_ h
  kernel_rfl

theorem atoms_len : (atomsB (bodyAt (hd1.heap_39 w.params) 28)).length ≤ 500 := Nat.le_of_ble_eq_true (by kernel_rfl)
theorem rows_len : (rowsB (bodyAt (hd1.heap_39 w.params) 35)).length ≤ 500 := Nat.le_of_ble_eq_true (by kernel_rfl)
theorem c_sym_init {d : Nat} (hd : d + 3 = c.d) (hdd : 100 ≤ d) {x dx : Addr} (h1 : σ x = some (.inst 122 dx)) (h2 : σ dx = some (.ns []))
   (h : ∀ σ' a1 a2 a3 a4, Keep [dx] σ σ' → SyA σ' x dx a1 a2 a3 a4 (symF (atomsB (bodyAt (hd1.heap_39 w.params) 28)) (rowsB (bodyAt (hd1.heap_39 w.params) 35))).1 (symF (atomsB (bodyAt (hd1.heap_39 w.params) 28)) (rowsB (bodyAt (hd1.heap_39 w.params) 35))).2 → Q .none σ') :
   CF prog c 49 [.loc x] ρ σ Q := by
  refine CF_K (names := ["self"]) (hl := rfl) (d := d + 2) hd rfl rfl (all1 fun a => by kernel_rfl) rfl (by decide) (by decide) (by decide) rfl rfl rfl fun c' hd' he => ?_
  have xd : x ≠ dx := fun z => by subst z; rw [h1] at h2; cases h2
  refine EX_cons (EX_Attr rfl (EV_List (EVs_nil ⟨by decide, fun a1 ha1 => EV_local he rfl rfl rfl ⟨x, 122, dx, [], rfl, (upd_ne (neF h1 ha1)).trans h1, (upd_ne (neF h2 ha1)).trans h2, cls_sym, at_sym1, by decide, ?_⟩⟩)))
  generalize hσ1 : upd (upd σ a1 (.list [])) dx (.ns (fset [] "texts" (.loc a1))) = σ1
  have k1 : Keep [dx] σ σ1 := hσ1 ▸ Keep.updIn (Keep.updNew (Keep.refl _ _) ha1 _) (.head _) _
  have x1 : σ1 x = some (.inst 122 dx) := k1 _ _ h1 (by simp [xd])
  have d1 : σ1 dx = some (.ns [("texts", .loc a1)]) := by rw [← hσ1]; exact upd_same _ _ _
  have o1 : σ1 a1 = some (.list []) := by rw [← hσ1]; exact (upd_ne (neF' h2 ha1)).trans (upd_same _ _ _)
  refine EX_cons (EX_Attr rfl (EV_DictS fun a2 ha2 => EV_local he rfl rfl rfl ⟨x, 122, dx, _, rfl, (upd_ne (neF x1 ha2)).trans x1, (upd_ne (neF d1 ha2)).trans d1, cls_sym, at_sym2, by simp, ?_⟩))
  generalize hσ2 : upd (upd σ1 a2 (.dictS [])) dx (.ns (fset [("texts", .loc a1)] "atom_numbers" (.loc a2))) = σ2
  have k2 : Keep [dx] σ1 σ2 := hσ2 ▸ Keep.updIn (Keep.updNew (Keep.refl _ _) ha2 _) (.head _) _
  have x2 : σ2 x = some (.inst 122 dx) := k2 _ _ x1 (by simp [xd])
  have d2 : σ2 dx = some (.ns [("texts", .loc a1), ("atom_numbers", .loc a2)]) := by rw [← hσ2]; exact upd_same _ _ _
  have a1d : a1 ≠ dx := fun z => by subst z; rw [o1] at d1; cases d1
  have p1 : σ2 a1 = some (.list []) := k2 _ _ o1 (by simp [a1d])
  have p2 : σ2 a2 = some (.dictS []) := by rw [← hσ2]; exact (upd_ne (neF' d1 ha2)).trans (upd_same _ _ _)
  refine EX_cons (EX_Attr rfl (EV_List (EVs_nil ⟨by decide, fun a3 ha3 => EV_local he rfl rfl rfl ⟨x, 122, dx, _, rfl, (upd_ne (neF x2 ha3)).trans x2, (upd_ne (neF d2 ha3)).trans d2, cls_sym, at_sym3, by simp, ?_⟩⟩)))
  generalize hσ3 : upd (upd σ2 a3 (.list [])) dx (.ns (fset [("texts", .loc a1), ("atom_numbers", .loc a2)] "functors" (.loc a3))) = σ3
  have k3 : Keep [dx] σ2 σ3 := hσ3 ▸ Keep.updIn (Keep.updNew (Keep.refl _ _) ha3 _) (.head _) _
  have x3 : σ3 x = some (.inst 122 dx) := k3 _ _ x2 (by simp [xd])
  have d3 : σ3 dx = some (.ns [("texts", .loc a1), ("atom_numbers", .loc a2), ("functors", .loc a3)]) := by rw [← hσ3]; exact upd_same _ _ _
  have a2d : a2 ≠ dx := fun z => by subst z; rw [p2] at d2; cases d2
  have q1 : σ3 a1 = some (.list []) := k3 _ _ p1 (by simp [a1d])
  have q2 : σ3 a2 = some (.dictS []) := k3 _ _ p2 (by simp [a2d])
  have q3 : σ3 a3 = some (.list []) := by rw [← hσ3]; exact (upd_ne (neF' d2 ha3)).trans (upd_same _ _ _)
  have a13 : a1 ≠ a3 := neF p1 ha3
  have a3d : a3 ≠ dx := fun z => by subst z; rw [q3] at d3; cases d3
  refine EX_cons (EX_Attr rfl (EV_DictT fun a4 ha4 => EV_local he rfl rfl rfl ⟨x, 122, dx, _, rfl, (upd_ne (neF x3 ha4)).trans x3, (upd_ne (neF d3 ha4)).trans d3, cls_sym, at_sym4, by simp, ?_⟩))
  generalize hσ4 : upd (upd σ3 a4 (.dictT [])) dx (.ns (fset [("texts", .loc a1), ("atom_numbers", .loc a2), ("functors", .loc a3)] "functor_numbers" (.loc a4))) = σ4
  have k4 : Keep [dx] σ3 σ4 := hσ4 ▸ Keep.updIn (Keep.updNew (Keep.refl _ _) ha4 _) (.head _) _
  have d4 : σ4 dx = some (.ns [("texts", .loc a1), ("atom_numbers", .loc a2), ("functors", .loc a3), ("functor_numbers", .loc a4)]) := by rw [← hσ4]; exact upd_same _ _ _
  have hA : SyA σ4 x dx a1 a2 a3 a4 [] [] := ⟨k4 _ _ x3 (by simp [xd]), d4, k4 _ _ q1 (by simp [a1d]), k4 _ _ q2 (by simp [a2d]), k4 _ _ q3 (by simp [a3d]), by rw [← hσ4]; exact (upd_ne (neF' d3 ha4)).trans (upd_same _ _ _), a13⟩
  have n1 : σ a1 = none := ha1
  have n2 : σ a2 = none := k1.none ha2 (by simp [a2d])
  have n3 : σ a3 = none := k1.none (k2.none ha3 (by simp [a3d])) (by simp [a3d])
  have a4d : a4 ≠ dx := fun z => by have := hA.o4; subst z; rw [d4] at this; cases this
  have n4 : σ a4 = none := k1.none (k2.none (k3.none ha4 (by simp [a4d])) (by simp [a4d])) (by simp [a4d])
  have fin : ∀ σ', Keep [a1, a2, a3, a4] σ4 σ' → Keep [dx] σ σ' := fun σ' k => by
    have k0 : Keep [dx] σ σ4 := ((k1.trans k2).trans k3).trans k4
    have k' : Keep [a1, a2, a3, a4, dx] σ σ' := (k0.wide (by simp)).trans (k.wide fun b hb => List.mem_append_left [dx] hb)
    exact (((k'.drop n1).drop n2).drop n3).drop n4
  clear hσ1 hσ2 hσ3 hσ4
  refine EX_cons (EX_For he rfl (fun _ => rfl) (EV_fcall0 he rfl rfl rfl rfl rfl (c_fixed_atoms (d := d + 1) hd'.symm ⟨_, _, .tuple, ?_⟩)))
  refine FB_run (fun vs ρ σ' => Sub [("self", .loc x)] ρ ∧ Keep [a1, a2, a3, a4] σ4 σ' ∧ ∃ (l ts : List Str), vs = l.map V.str ∧ l.foldl touch ts = symA (atomsB (bodyAt (hd1.heap_39 w.params) 28)) ∧ SyA σ' x dx a1 a2 a3 a4 ts [] ∧ ts.length + l.length ≤ 1000)
    (fun ρ σ' => Sub [("self", .loc x)] ρ ∧ Keep [a1, a2, a3, a4] σ4 σ' ∧ ∃ ts : List Str, ts = symA (atomsB (bodyAt (hd1.heap_39 w.params) 28)) ∧ SyA σ' x dx a1 a2 a3 a4 ts [] ∧ ts.length ≤ 1000) ?_ ?_ ?_
    ⟨.cons rfl .nil, .refl _ _, _, [], rfl, rfl, hA, by have := atoms_len (w := w); simp; omega⟩
  · rintro v vs ρ1 σ1 ⟨hs, hk, l, ts, hl, hf, hA, hz⟩
    cases l with
    | nil => cases hl
    | cons t l =>
    cases hl
    refine EX.sub (ρ' := lset [("self", .loc x)] "text" (.str t)) (Sub.both hs) ?_
    simp at hz
    refine EX_cons (EX_Expr rfl rfl (EV_meth rfl rfl rfl (EV_local he rfl rfl rfl ⟨x, 122, dx, _, 56, rfl, hA.x, hA.ns, cls_sym, me_atom, rfl, EVs_cons rfl (EV_local he rfl rfl rfl (EVs_nil ⟨.inl rfl, ?_⟩))⟩)))
    refine c_atom (d := d + 1) hd'.symm hA (by omega) t fun σ2 k2 hA2 => ?_
    refine EX_nil ⟨trivial, .cons rfl .nil, hk.trans (k2.wide (by simp)), l, _, rfl, hf, hA2, ?_⟩
    have := touch_length ts t
    omega
  · rintro ρ1 σ1 ⟨hs, hk, l, ts, hl, hf, hA, hz⟩
    cases l with
    | cons t l => cases hl
    | nil => exact ⟨hs, hk, ts, hf, hA, by simpa using hz⟩
  rintro ρ1 σ1 ⟨hs, hk, ts, hts, hA1, hz⟩
  refine EX.sub hs ?_
  refine EX_cons (EX_For he rfl (fun _ => rfl) (EV_fcall0 he rfl rfl rfl rfl rfl (c_fixed_functors (d := d + 1) hd'.symm ⟨_, _, .tuple, ?_⟩)))
  refine FB_run (fun vs ρ σ' => Sub [("self", .loc x)] ρ ∧ Keep [a1, a2, a3, a4] σ4 σ' ∧ ∃ (l : List (Str × Int)) (ts : List Str) (fs : List (List Int)), vs = l.map rowV ∧ l.foldl symStep (ts, fs) = symF (atomsB (bodyAt (hd1.heap_39 w.params) 28)) (rowsB (bodyAt (hd1.heap_39 w.params) 35)) ∧ SyA σ' x dx a1 a2 a3 a4 ts fs ∧ ts.length + l.length ≤ 2000 ∧ fs.length + l.length ≤ 2000)
    (fun ρ σ' => Sub [("self", .loc x)] ρ ∧ Keep [a1, a2, a3, a4] σ4 σ' ∧ ∃ (ts : List Str) (fs : List (List Int)), (ts, fs) = symF (atomsB (bodyAt (hd1.heap_39 w.params) 28)) (rowsB (bodyAt (hd1.heap_39 w.params) 35)) ∧ SyA σ' x dx a1 a2 a3 a4 ts fs) ?_ ?_ ?_
    ⟨.cons rfl .nil, hk, _, ts, [], rfl, by rw [hts]; rfl, hA1, by have := rows_len (w := w); simp; omega, by have := rows_len (w := w); simp; omega⟩
  · rintro v vs ρ1 σ1 ⟨hs, hk, l, ts, fs, hl, hf, hA, hz, hz'⟩
    cases l with
    | nil => cases hl
    | cons t l =>
    cases hl
    refine EX.sub (ρ' := lset [("self", .loc x)] "row" (rowV t)) (Sub.both hs) ?_
    simp at hz hz'
    refine EX_cons (EX_Expr rfl rfl (EV_meth rfl rfl rfl (EV_local he rfl rfl rfl ⟨x, 122, dx, _, 77, rfl, hA.x, hA.ns, cls_sym, me_func, rfl, EVs_cons rfl (EV_Sub (fun _ _ => rfl) (EV_local he rfl rfl rfl (EV_int ⟨_, 0, .str t.1, rfl, rfl, rfl, EVs_cons rfl (EV_Sub (fun _ _ => rfl) (EV_local he rfl rfl rfl (EV_int ⟨_, 1, .int t.2, rfl, rfl, rfl, EVs_nil ⟨.inl rfl, ?_⟩⟩)))⟩)))⟩)))
    refine c_func (d := d) hd'.symm hdd hA (by omega) (by omega) t.1 t.2 fun σ2 k2 hA2 => ?_
    refine EX_nil ⟨trivial, .cons rfl .nil, hk.trans k2, l, _, _, rfl, hf, hA2, ?_, ?_⟩
    · exact Nat.le_trans (Nat.add_le_add_right (touch_length ts _) _) (by omega)
    · exact Nat.le_trans (Nat.add_le_add_right (touch_length fs _) _) (by omega)
  · rintro ρ1 σ1 ⟨hs, hk, l, ts, fs, hl, hf, hA, hz⟩
    cases l with
    | cons t l => cases hl
    | nil => exact ⟨hs, hk, ts, fs, hf, hA⟩
  rintro ρ1 σ1 ⟨hs, hk, ts, fs, hts, hA1⟩
  refine EX_nil ?_
  exact h σ1 a1 a2 a3 a4 (fin _ hk) (by rw [← hts]; exact hA1)

theorem c_Symbols {d : Nat} (hd : d + 4 = c.d) (hdd : 100 ≤ d)
   (h : ∀ σ' x dx a1 a2 a3 a4, σ x = none → Keep [] σ σ' → SyA σ' x dx a1 a2 a3 a4 (symF (atomsB (bodyAt (hd1.heap_39 w.params) 28)) (rowsB (bodyAt (hd1.heap_39 w.params) 35))).1 (symF (atomsB (bodyAt (hd1.heap_39 w.params) 28)) (rowsB (bodyAt (hd1.heap_39 w.params) 35))).2 → Q (.loc x) σ') :
   CF prog c 122 [] ρ σ Q := by
  refine CF_cls (fI := 49) (d := d + 3) hd rfl rfl rfl fun c' x dx hd' hx hdx hne => ?_
  refine c_sym_init (d := d) hd'.symm hdd (x := x) (dx := dx) (upd_same _ _ _) ((upd_ne (Ne.symm hne)).trans (upd_same _ _ _)) fun σ' a1 a2 a3 a4 k hA => ⟨rfl, ?_⟩
  refine h σ' x dx a1 a2 a3 a4 hx ?_ hA
  have k0 : Keep [dx] σ (upd (upd σ dx (.ns [])) x (.inst 122 dx)) := Keep.updNew (Keep.updIn (Keep.refl _ _) (.head _) _) ((upd_ne hne).trans hx) _
  exact (k0.trans k).drop hdx
theorem cls_fresh : ClsOk (hd1.heap_39 w.params) 215 := ⟨rfl, rfl, rfl, rfl⟩
theorem at_fresh : AttrOk (hd1.heap_39 w.params) 215 "next" := ⟨rfl, rfl⟩
theorem c_Fresh {d : Nat} (hd : d + 2 = c.d) (n : Int) (h : ∀ σ' x, σ x = none → Keep [] σ σ' → Q (.loc x) σ') :
   CF prog c 215 [.int n] ρ σ Q := by
  refine CF_cls (fI := 205) (d := d + 1) hd rfl rfl rfl fun c' x dx hd' hx hdx hne => ?_
  refine CF_KD (names := ["self", "first"]) (hl := rfl) (d := d) hd'.symm rfl rfl (all2 fun a b S => by kernel_rfl) rfl (by decide) (by decide) (by decide) rfl rfl rfl fun c' hd' he => ?_
  refine EX_cons (EX_Attr rfl (EV_local he rfl rfl rfl (EV_local he rfl rfl rfl ⟨x, 215, dx, [], rfl, upd_same _ _ _, (upd_ne (Ne.symm hne)).trans (upd_same _ _ _), cls_fresh, at_fresh, by decide, ?_⟩)))
  refine EX_nil ⟨rfl, h _ x hx ?_⟩
  have k0 : Keep [dx] σ (upd (upd σ dx (.ns [])) x (.inst 215 dx)) := Keep.updNew (Keep.updIn (Keep.refl _ _) (.head _) _) ((upd_ne hne).trans hx) _
  exact (k0.updIn (.head _) _).drop hdx
theorem cls_norm : ClsOk (hd1.heap_39 w.params) 390 := ⟨rfl, rfl, rfl, rfl⟩
theorem at_norm1 : AttrOk (hd1.heap_39 w.params) 390 "symbols" := ⟨rfl, rfl⟩
theorem at_norm2 : AttrOk (hd1.heap_39 w.params) 390 "inline" := ⟨rfl, rfl⟩
theorem at_norm3 : AttrOk (hd1.heap_39 w.params) 390 "fresh" := ⟨rfl, rfl⟩
theorem at_norm4 : AttrOk (hd1.heap_39 w.params) 390 "next_variable" := ⟨rfl, rfl⟩
theorem at_norm5 : AttrOk (hd1.heap_39 w.params) 390 "work" := ⟨rfl, rfl⟩
theorem c_Norm {d : Nat} (hd : d + 2 = c.d) (sy il fr : V) (n : Int) (h : ∀ σ' x dx wk, σ x = none → Keep [] σ σ' → NoA σ' x dx wk sy il fr n [] → Q (.loc x) σ') :
   CF prog c 390 [sy, il, fr, .int n] ρ σ Q := by
  refine CF_cls (fI := 303) (d := d + 1) hd rfl rfl rfl fun c' x dx hd' hx hdx hne => ?_
  refine CF_K (names := ["self", "symbols", "inline", "fresh", "next_variable"]) (hl := rfl) (d := d) hd'.symm rfl rfl (all5 fun a b c d e => by kernel_rfl) rfl (by decide) (by decide) (by decide) rfl rfl rfl fun c' hd' he => ?_
  have k0 : Keep [dx] σ (upd (upd σ dx (.ns [])) x (.inst 390 dx)) := Keep.updNew (Keep.updIn (Keep.refl _ _) (.head _) _) ((upd_ne hne).trans hx) _
  have e0 : upd (upd σ dx (.ns [])) x (.inst 390 dx) x = some (.inst 390 dx) := upd_same _ _ _
  have e1 : upd (upd σ dx (.ns [])) x (.inst 390 dx) dx = some (.ns []) := (upd_ne (Ne.symm hne)).trans (upd_same _ _ _)
  generalize upd (upd σ dx (.ns [])) x (.inst 390 dx) = σ0 at k0 e0 e1
  have u : ∀ {τ : St} {fs : List (Str × V)}, τ x = some (.inst 390 dx) → upd τ dx (.ns fs) x = some (.inst 390 dx) := fun e => (upd_ne hne).trans e
  refine EX_cons (EX_Attr rfl (EV_local he rfl rfl rfl (EV_local he rfl rfl rfl ⟨x, 390, dx, _, rfl, e0, e1, cls_norm, at_norm1, by decide, ?_⟩)))
  refine EX_cons (EX_Attr rfl (EV_local he rfl rfl rfl (EV_local he rfl rfl rfl ⟨x, 390, dx, _, rfl, u e0, upd_same _ _ _, cls_norm, at_norm2, by simp [fset], ?_⟩)))
  rw [upd_upd]
  refine EX_cons (EX_Attr rfl (EV_local he rfl rfl rfl (EV_local he rfl rfl rfl ⟨x, 390, dx, _, rfl, u e0, upd_same _ _ _, cls_norm, at_norm3, Nat.le_of_ble_eq_true rfl, ?_⟩)))
  rw [upd_upd]
  refine EX_cons (EX_Attr rfl (EV_local he rfl rfl rfl (EV_local he rfl rfl rfl ⟨x, 390, dx, _, rfl, u e0, upd_same _ _ _, cls_norm, at_norm4, Nat.le_of_ble_eq_true rfl, ?_⟩)))
  rw [upd_upd]
  refine EX_cons (EX_Attr rfl (EV_List (EVs_nil ⟨by decide, fun wk hw => EV_local he rfl rfl rfl ⟨x, 390, dx, _, rfl, (upd_ne (neF (u e0) hw)).trans (u e0), (upd_ne (neF (upd_same _ _ _) hw)).trans (upd_same _ _ _), cls_norm, at_norm5, Nat.le_of_ble_eq_true rfl, ?_⟩⟩)))
  have hwd : wk ≠ dx := neF' (upd_same _ _ _) hw
  refine EX_nil ⟨rfl, h _ x dx wk hx (((k0.updIn (.head _) _).updNew hw _).updIn (.head _) _ |>.drop hdx) ⟨(upd_ne hne).trans ((upd_ne (neF (u e0) hw)).trans (u e0)), upd_same _ _ _, (upd_ne hwd).trans (upd_same _ _ _)⟩⟩
end
end RH
set_option Elab.async false
set_option maxRecDepth 100000
set_option maxHeartbeats 4000000
set_option linter.all false
namespace RH
open PySem PySem.W PySem.Calls PyProof.Rows
section
variable {prog : Program} {w : World} {c : Cx w (hd1.heap_39 w.params)} {ρ : Loc} {σ : St} {Q : V → St → Prop}
theorem c_coinsG {d : Nat} (hd : d + 1 = c.d) (hdd : 100 ≤ d) {x : Addr} {xs : List Int} (hz : xs.length ≤ 1000000) (hx : Given c x xs)
   (h : ∀ b cs σ', σ b = none → Keep [] σ σ' → σ' b = some (.list (intl cs)) → cs.length ≤ 1000 → Q (.loc b) σ') :
   CF prog c 408 [.loc x] ρ σ Q := by
  refine CF_Kh (names := ["script"]) (hl := rfl) hd rfl rfl (all1 fun a => by kernel_rfl) rfl (by decide) (by decide) (by decide) rfl rfl rfl fun c' hd' hk' he => ?_
  refine EX_cons (EX_Name he rfl rfl (EV_List (EVs_nil ⟨by decide, fun a ha => ?_⟩)))
  have hx' := hx.keep hk'
  refine EX_cons (EX_For he rfl (fun _ => rfl) (EV_UptoG (fun _ _ => rfl) (EV_local he rfl rfl rfl (EV_int ⟨x, intl xs, 60, rfl, hx'.at, by simp [intl]; exact hz, rfl, by decide, fun D hD => ?_⟩))))
  refine ⟨_, _, .list (upd_same _ _ _), ?_⟩
  have haD := neF (upd_same _ _ _) hD
  have hDx : σ D = none := (upd_ne (Ne.symm haD)).symm.trans hD
  refine FB_run (fun vs ρ σ' => Sub [("coins", .loc a)] ρ ∧ Keep [a] (upd (upd σ a (.list [])) D (.list ((intl xs).take 60))) σ' ∧ (∃ cs, σ' a = some (.list (intl cs)) ∧ cs.length ≤ 90) ∧ ∃ l, vs = intl l)
    (fun ρ σ' => Sub [("coins", .loc a)] ρ ∧ Keep [a] (upd (upd σ a (.list [])) D (.list ((intl xs).take 60))) σ' ∧ ∃ cs, σ' a = some (.list (intl cs)) ∧ cs.length ≤ 110) ?_ ?_ ?_ ⟨.cons rfl .nil, .refl _ _, ⟨[], (upd_ne haD).trans (upd_same _ _ _), by decide⟩, xs.take 60, by simp [intl]⟩
  · rintro v vs ρ₁ σ₁ ⟨hs, hk, ⟨cs, ha1, hcs⟩, l, hl⟩
    cases l with
    | nil => cases hl
    | cons i l =>
    cases hl
    refine EX.sub (ρ' := lset [("coins", .loc a)] "cell" (.int i)) (Sub.both hs) ?_
    refine EX_cons (EX_Name he rfl rfl (EV_bcall (x := "abs") he rfl rfl rfl rfl (by decide) rfl rfl rfl (EVs_cons rfl (EV_local he rfl rfl rfl (EVs_nil (OP_abs ?_))))))
    refine EX_cons (EX_For he rfl (fun _ => rfl) (EV_tcall (x := "range") he rfl rfl rfl rfl (by decide) rfl rfl rfl (EVs_cons rfl (EV_int (EVs_nil (OP_range fun r t u v hr => ?_))))))
    refine ⟨_, _, .range (n := 20) (by decide) (upd_same _ _ _), ?_⟩
    have har := neF ha1 hr
    refine FB_run (fun vs ρ σ' => Sub [("coins", .loc a)] ρ ∧ (∃ j, lget ρ "left" = some (.int j)) ∧ Keep [a] (upd (upd σ a (.list [])) D (.list ((intl xs).take 60))) σ' ∧ ∃ cs, σ' a = some (.list (intl cs)) ∧ cs.length + vs.length ≤ 110)
      (fun ρ σ' => Sub [("coins", .loc a)] ρ ∧ Keep [a] (upd (upd σ a (.list [])) D (.list ((intl xs).take 60))) σ' ∧ ∃ cs, σ' a = some (.list (intl cs)) ∧ cs.length ≤ 110) ?_ ?_ ?_
      ⟨.cons rfl .nil, ⟨_, rfl⟩, Keep.updNew hk hr _, cs, (upd_ne har).trans ha1, by simp [rangeV]; omega⟩
    · rintro v vs ρ₂ σ₂ ⟨hs, ⟨j, hj⟩, hk, cs, ha2, hcs⟩
      simp at hcs
      refine EX.sub (ρ' := [("coins", .loc a), ("left", .int j)]) (Sub.miss (.cons (hs _ _ rfl) (.cons hj .nil)) rfl) ?_
      refine EX_cons (EX_Expr rfl rfl (EV_append rfl rfl rfl rfl rfl (EV_local he rfl rfl rfl ⟨a, rfl, ⟨_, ha2⟩, EV_BinOp (EV_local he rfl rfl rfl (EV_int (OP_mod (by decide) ⟨_, ha2, by simp [intl]; omega, ?_⟩)))⟩)))
      refine EX_cons (EX_Name he rfl rfl (EV_BinOp (EV_local he rfl rfl rfl (EV_int (OP_fdiv (by decide) (PyProof.noPylong_small (by decide)) ?_)))))
      have e : intl cs ++ [V.int (j.fmod 1000)] = intl (cs ++ [j.fmod 1000]) := by simp [intl]
      rw [e]
      have hk3 := Keep.updIn hk (.head _) (.list (intl (cs ++ [j.fmod 1000])))
      refine EX_cons (EX_If (TR_Compare rfl (EV_local he rfl rfl rfl (EV_int (OP_eq ⟨_, rfl, ?_⟩)))))
      split
      · exact EX_cons (EX_Break ⟨rfl, .cons rfl .nil, hk3, _, upd_same _ _ _, by simp; omega⟩)
      · exact EX_nil (EX_nil ⟨trivial, .cons rfl .nil, ⟨_, rfl⟩, hk3, _, upd_same _ _ _, by simp; omega⟩)
    · rintro ρ σ' ⟨h1, _, h2, cs, h3, h4⟩
      exact ⟨h1, h2, cs, h3, h4⟩
    · rintro ρ₂ σ₂ ⟨hs, hk, cs, ha2, hcs⟩
      refine EX.sub hs ?_
      refine EX_cons (EX_If (TR_Compare rfl (EV_bcall (x := "len") he rfl rfl rfl rfl (by decide) rfl rfl rfl (EVs_cons rfl (EV_local he rfl rfl rfl (EVs_nil (OP_len_list ha2 (by simp [intl]; omega) (EV_int (OP_gt ⟨_, rfl, ?_⟩)))))))))
      split
      · exact EX_cons (EX_Break ⟨rfl, .cons rfl .nil, hk, cs, ha2, hcs⟩)
      · rename_i hn
        refine EX_nil (EX_nil ⟨hk D _ (upd_same _ _ _) (by simp [Ne.symm haD]), .cons rfl .nil, hk, ⟨cs, ha2, ?_⟩, l, rfl⟩)
        simp [intl] at hn
        omega
  · rintro ρ σ' ⟨h1, h2, ⟨cs, h3, h4⟩, _⟩
    exact ⟨h1, h2, cs, h3, by omega⟩
  · rintro ρ₂ σ₂ ⟨hs, hk, cs, ha2, hcs⟩
    refine EX.sub hs ?_
    refine EX_cons (EX_Expr rfl rfl (EV_reverse rfl rfl (EV_local he rfl rfl rfl ⟨a, _, rfl, ha2, by simp [intl]; omega, ?_⟩)))
    refine EX_cons (EX_Return (EV_local he rfl rfl rfl ?_))
    refine h a cs.reverse _ ha (Keep.drop (Keep.updIn (fun b o e n => hk b o ?_ n) (.head _) _) ha) ((upd_same _ _ _).trans (by simp [intl])) (by simp; omega)
    exact (Keep.updNew (Keep.updNew (Keep.refl [] σ) ha _) hD _) b o e (by simp)

end
end RH
set_option Elab.async false
set_option maxRecDepth 100000
set_option maxHeartbeats 400000
set_option linter.all false
namespace RH
open PySem PySem.W PySem.Calls PyProof.Rows
section
variable {prog : Program} {w : World} {c : Cx w (hd1.heap_39 w.params)} {ρ : Loc} {σ : St} {Q : V → St → Prop}

theorem c_thing0 (n : Nat) (ih : ∀ m, m + 1 = n → ∀ {c : Cx w (hd1.heap_39 w.params)} {ρ : Loc} {σ : St} {Q : V → St → Prop} {d : Nat} (hd : d + 1 = c.d) (hdd : 110 + m ≤ d) {a : Addr} {cs : List Int} (hz : cs.length ≤ 1000000) (ha : σ a = some (.list (intl cs.reverse)))
   (h : ∀ (t : Pc) (cs' : List Int) σ', t.isT m → Keep [a] σ σ' → σ' a = some (.list (intl cs'.reverse)) → cs'.length ≤ cs.length → Q t.toV σ'),
   CF prog c 420 [.loc a, .int m] ρ σ Q) {d : Nat} (hd : d + 1 = c.d) (hdd : 110 + n ≤ d) {a : Addr} {cs : List Int} (hz : cs.length ≤ 1000000) (ha : σ a = some (.list (intl cs.reverse)))
   (h : ∀ (t : Pc) (cs' : List Int) σ', t.isT n → Keep [a] σ σ' → σ' a = some (.list (intl cs'.reverse)) → cs'.length ≤ cs.length → Q t.toV σ') :
   CF prog c 420 [.loc a, .int n] ρ σ Q := by
  refine CF_KC (names := ["coins", "deep"]) (hl := rfl) (d := d) hd rfl rfl (all2 fun a b S => by kernel_rfl) rfl (by decide) rfl rfl rfl fun c' hd' he hfr => ?_
  obtain ⟨e, rfl⟩ : ∃ e, d = e + 1 := ⟨d - 1, by omega⟩
  generalize hσ : cellS _ σ _ = σ0
  obtain ⟨k0, hc1, hc2⟩ : Keep [] σ σ0 ∧ σ0 (c'.L + 1) = some (.cell (some (.loc a))) ∧ σ0 (c'.L + 1 + 1) = some (.cell (some (.int n))) := by
    rw [← hσ]
    exact cells2 (x := some (.loc a)) (y := some (.int n)) hfr
  have ha0 := k0 _ _ ha (by simp)
  refine EX_cons (EX_Name he rfl rfl (EV_fcall (f := 415) he rfl rfl rfl rfl rfl rfl rfl (EVs_cons rfl (EV_cell he rfl rfl rfl hc1 (EVs_cons rfl (EV.mono (Q := fun V σ' => ∃ sd : Int, V = .int sd ∧ (sd = 3 ∨ (sd = 5 ∧ 0 < n)) ∧ σ' = σ0) (EV_IfExp (TR_Compare rfl (EV_cell he rfl rfl rfl hc2 (EV_int (OP_gt ⟨_, rfl, ?_⟩))))) ?_))))))
  · split
    · exact EV_int ⟨5, rfl, .inr ⟨rfl, by simp_all⟩, rfl⟩
    · exact EV_int ⟨3, rfl, .inl rfl, rfl⟩
  rintro V σ' ⟨sd, rfl, hsd, rfl⟩
  have sd0 : 0 < sd := by omega
  refine EVs_nil (c_coin (d := e) hd'.symm (by omega) (by omega) hz ha0 fun σ1 k1 ha1 => ?_)
  have hw0 := coin_ge cs sd0
  have hw1 := coin_lt cs sd0
  generalize coin cs sd = way at hw0 hw1
  have hkk : Keep [a] σ σ1 := (k0.wide (by simp)).trans k1
  have hc1' := k1 _ _ hc1 (by simp; exact neF' ha (hfr _ (Nat.le_succ _)))
  have hc2' := k1 _ _ hc2 (by simp; exact neF' ha (hfr _ (Nat.le_add_right _ 2)))
  refine EX_cons (EX_If (TR_Compare rfl (EV_local he rfl rfl rfl (EV_int (OP_lt ⟨_, rfl, ?_⟩)))))
  split
  · refine EX_cons ?_
    refine EX_Return ?_
    refine EV_Tuple ?_
    refine EVs_str ?_
    refine EVs_cons rfl ?_
    refine EV_Sub (fun _ _ => rfl) ?_
    refine EV_List ?_
    refine EVs_int ?_
    refine EVs_int ?_
    refine EVs_int ?_
    refine EVs_cons rfl ?_
    refine EV_BinOp ?_
    refine EV_int ?_
    refine EV_int ?_
    refine OP_pow (by decide) (by decide +kernel) ?_
    refine EVs_int ?_
    refine EVs_int ?_
    refine EVs_nil ⟨by simp, fun l hl => ?_⟩
    refine EV_fcall (f := 415) he rfl rfl rfl rfl rfl rfl rfl ?_
    refine EVs_cons rfl ?_
    refine EV_cell he rfl rfl rfl ((upd_ne (neF hc1' hl)).trans hc1') ?_
    refine EVs_int ?_
    refine EVs_nil ?_
    refine (c_coin (d := e) hd'.symm (by omega) (by decide) (Nat.le_trans (tail_le _) hz) ((upd_ne (neF ha1 hl)).trans ha1) fun σ2 k2 ha2 => ?_)
    obtain ⟨i, _, hi⟩ := vidx_map V.int [0, 7, 3, 10 ^ 20, 40, 12] (coin_ge cs.tail (n := 6) (by decide)) (coin_lt cs.tail (n := 6) (by decide)) (by have := coin_lt cs.tail (n := 6) (by decide); omega)
    have hla : l ≠ a := neF' ha1 hl
    refine ⟨_, _, _, ?_, rfl, hi, EVs_nil ⟨by simp, h (.var i) cs.tail.tail σ2 (by cases n <;> trivial) (hkk.trans (fun b o e n => k2 b o ((upd_ne (neF e hl)).trans e) n)) ha2 (Nat.le_trans (tail_le _) (tail_le _))⟩⟩
    simp only [seqOf, k2 _ _ (upd_same _ _ _) (by simpa using hla)]
    rfl
  refine EX_nil (EX_cons (EX_If (TR_Compare rfl (EV_local he rfl rfl rfl (EV_int (OP_eq ⟨_, rfl, ?_⟩))))))
  split
  · refine EX_cons ?_
    refine EX_Return ?_
    refine EV_Sub (fun _ _ => rfl) ?_
    refine EV_List ?_
    refine EVs_row ?_
    refine EVs_row ?_
    refine EVs_nil ⟨by simp, fun l hl => ?_⟩
    refine EV_fcall (f := 415) he rfl rfl rfl rfl rfl rfl rfl ?_
    refine EVs_cons rfl ?_
    refine EV_cell he rfl rfl rfl ((upd_ne (neF hc1' hl)).trans hc1') ?_
    refine EVs_int ?_
    refine EVs_nil ?_
    refine (c_coin (d := e) hd'.symm (by omega) (by decide) (Nat.le_trans (tail_le _) hz) ((upd_ne (neF ha1 hl)).trans ha1) fun σ2 k2 ha2 => ?_)
    obtain ⟨i, _, hi⟩ := vidx_map leafV [false, true] (coin_ge cs.tail (n := 2) (by decide)) (coin_lt cs.tail (n := 2) (by decide)) (by have := coin_lt cs.tail (n := 2) (by decide); omega)
    have hla : l ≠ a := neF' ha1 hl
    refine ⟨_, _, _, ?_, rfl, hi, h (.leaf i) cs.tail.tail σ2 (by cases n <;> trivial) (hkk.trans (fun b o e n => k2 b o ((upd_ne (neF e hl)).trans e) n)) ha2 (Nat.le_trans (tail_le _) (tail_le _))⟩
    simp only [seqOf, k2 _ _ (upd_same _ _ _) (by simpa using hla)]
    rfl
  refine EX_nil ?_
  rename_i hw2 hw3
  have hw2' : ¬ way < 2 := by simpa using hw2
  have hw3' : way ≠ 2 := by simpa using hw3
  have hsd5 : sd = 5 ∧ 0 < n := by omega
  obtain ⟨m, hm⟩ : ∃ m, m + 1 = n := ⟨n - 1, by omega⟩
  obtain ⟨q, hq⟩ : ∃ q : Nat, way - 2 = q := ⟨(way - 2).toNat, by omega⟩
  refine EX_cons ?_
  refine EX_Return ?_
  refine EV_Tuple ?_
  refine EVs_str ?_
  refine EVs_cons rfl ?_
  refine EV_BinOp ?_
  refine EV_int ?_
  refine EV_local he rfl rfl rfl ?_
  refine OP_add ?_
  refine EVs_cons rfl ?_
  refine EV_tcall (x := "tuple") he rfl rfl rfl rfl (by decide) rfl rfl rfl ?_
  refine EVs_cons rfl ?_
  refine EV_ListComp he rfl (by decide) rfl (by decide) rfl (fun _ => rfl) ?_
  refine EV_tcall (x := "range") he rfl rfl rfl rfl (by decide) rfl rfl rfl ?_
  refine EVs_cons rfl ?_
  refine EV_BinOp ?_
  refine EV_local he rfl rfl rfl ?_
  refine EV_int ?_
  refine OP_sub ?_
  refine EVs_nil ?_
  rw [hq]
  refine OP_range fun r t u v hr => ?_
  refine ⟨_, _, .range (n := q) (by omega) (upd_same _ _ _), fun c2 D hd2 he2 hD => ⟨trivial, ?_⟩⟩
  generalize hτ : upd σ1 r (.raw { cls := .type "range", data := .fields #[.int 0 t, .int (q : Nat) u, .int 1 v] }) = τ at hD ⊢
  have kτ : Keep [] σ1 τ := hτ ▸ Keep.updNew (Keep.refl _ _) hr _
  have hDn : σ1 D = none := kτ.none hD (by simp)
  have hDa : D ≠ a := neF' ha1 hDn
  refine CB_ind (fun vs ρ σ' => ∃ (ts : List Pc) (cs' : List Int), σ' D = some (.list (ts.map Pc.toV)) ∧ Keep [D, a] (upd τ D (.list [])) σ' ∧ σ' a = some (.list (intl cs'.reverse)) ∧ cs'.length ≤ cs.length ∧ (∀ t ∈ ts, Pc.isT m t) ∧ ts.length + vs.length ≤ 3) ?_ ?_
    ⟨[], cs.tail, upd_same _ _ _, .refl _ _, (upd_ne (Ne.symm hDa)).trans (kτ _ _ ha1 (by simp)), tail_le _, by simp, by simp [rangeV]; omega⟩
  · rintro v vs ρ2 σ2 ⟨ts, cs', hD2, k2, ha2, hcs, hts, hz2⟩
    have hc1'' := k2 _ _ ((upd_ne (neF hc1' hDn)).trans (kτ _ _ hc1' (by simp))) (by simp; exact ⟨neF hc1' hDn, neF' ha (hfr _ (Nat.le_succ _))⟩)
    have hc2'' := k2 _ _ ((upd_ne (neF hc2' hDn)).trans (kτ _ _ hc2' (by simp))) (by simp; exact ⟨neF hc2' hDn, neF' ha (hfr _ (Nat.le_add_right _ 2))⟩)
    refine EV_fcall (f := 420) he2 rfl rfl rfl rfl rfl rfl rfl ?_
    refine EVs_cons rfl ?_
    refine EV_cell he2 rfl rfl rfl hc1'' ?_
    refine EVs_cons rfl ?_
    refine EV_BinOp ?_
    refine EV_cell he2 rfl rfl rfl hc2'' ?_
    refine EV_int ?_
    refine OP_sub ?_
    refine EVs_nil ?_
    rw [show (n : Int) - 1 = (m : Nat) by omega]
    refine ih m hm (d := e) (by omega) (by omega) (by omega) ha2 fun t cs2 σ3 ht k3 ha3 hcs2 => ?_
    have hD3 := k3 _ _ hD2 (by simpa using hDa)
    simp at hz2
    refine ⟨_, hD3, by simp; omega, trivial, ts ++ [t], cs2, (upd_same _ _ _).trans (by simp), (k2.trans (k3.wide (by simp))).updIn (.head _) _, (upd_ne (Ne.symm hDa)).trans ha3, by omega, ?_, by simp; omega⟩
    intro t' ht'
    rcases List.mem_append.mp ht' with h' | h'
    · exact hts _ h'
    · simp at h'; exact h' ▸ ht
  · rintro ρ2 σ2 ⟨ts, cs', hD2, k2, ha2, hcs, hts, hz2⟩
    refine EVs_nil ?_
    refine OP_tuple_list hD2 (by simp at hz2 ⊢; omega) ?_
    refine EVs_nil ⟨by simp, ?_⟩
    have r := h (.st 0 (10 + way) ts) cs' σ2 (by subst hm; exact ⟨rfl, by simp at hz2; omega, hts⟩) ?_ ha2 hcs
    · rw [Pc.toV, Pc.toVs_map] at r
      exact r
    · intro b o hb hn
      have h1 := kτ _ _ (hkk b o hb hn) (by simp)
      refine k2 b o ((upd_ne (neF h1 hD)).trans h1) ?_
      simp
      exact ⟨neF h1 hD, by simpa using hn⟩
theorem c_thing (n : Nat) : ∀ {c : Cx w (hd1.heap_39 w.params)} {ρ : Loc} {σ : St} {Q : V → St → Prop} {d : Nat} (hd : d + 1 = c.d) (hdd : 110 + n ≤ d) {a : Addr} {cs : List Int} (hz : cs.length ≤ 1000000) (ha : σ a = some (.list (intl cs.reverse)))
   (h : ∀ (t : Pc) (cs' : List Int) σ', t.isT n → Keep [a] σ σ' → σ' a = some (.list (intl cs'.reverse)) → cs'.length ≤ cs.length → Q t.toV σ'),
   CF prog c 420 [.loc a, .int n] ρ σ Q := by
  induction n with
  | zero => 
    intro c ρ σ Q d hd hdd a cs hz ha h
    exact c_thing0 0 (fun m hm => absurd hm (Nat.succ_ne_zero m)) hd hdd hz ha h
  | succ m ih =>
    intro c ρ σ Q d hd hdd a cs hz ha h
    exact c_thing0 (m + 1) (fun k hk => by obtain rfl : k = m := Nat.succ.inj hk; exact ih) hd hdd hz ha h
end
end RH
set_option Elab.async false
set_option maxRecDepth 100000
set_option maxHeartbeats 400000
set_option linter.all false
namespace RH
open PySem PySem.W PySem.Calls PyProof.Rows
section
variable {prog : Program} {w : World} {c : Cx w (hd1.heap_39 w.params)} {ρ : Loc} {σ : St} {Q : V → St → Prop}
theorem c_goal {d : Nat} (hd : d + 1 = c.d) (hdd : 120 ≤ d) {a : Addr} {cs : List Int} (hz : cs.length ≤ 1000000) (ha : σ a = some (.list (intl cs.reverse)))
   (h : ∀ (g : Pc) (cs' : List Int) σ', g.isG 2 → Keep [a] σ σ' → σ' a = some (.list (intl cs'.reverse)) → cs'.length ≤ cs.length → Q g.toV σ') :
   CF prog c 425 [.loc a] ρ σ Q := by
  refine CF_KC (names := ["coins"]) (hl := rfl) (d := d) hd rfl rfl (all1 fun a S => by kernel_rfl) rfl (by decide) rfl rfl rfl fun c' hd' he hfr => ?_
  obtain ⟨e, rfl⟩ : ∃ e, d = e + 1 := ⟨d - 1, by omega⟩
  generalize hσ : cellS _ σ _ = σ0
  obtain ⟨k0, hc1⟩ : Keep [] σ σ0 ∧ σ0 (c'.L + 1) = some (.cell (some (.loc a))) := by
    rw [← hσ]
    exact cells1 (x := some (.loc a)) hfr
  have ha0 := k0 _ _ ha (by simp)
  have hLa : c'.L + 1 ≠ a := neF' ha (hfr _ (Nat.le_succ _))
  refine EX_cons ?_
  refine EX_Name he rfl rfl ?_
  refine EV_fcall (f := 415) he rfl rfl rfl rfl rfl rfl rfl ?_
  refine EVs_cons rfl ?_
  refine EV_cell he rfl rfl rfl hc1 ?_
  refine EVs_int ?_
  refine EVs_nil ?_
  refine c_coin (d := e) hd'.symm (by omega) (by decide) hz ha0 fun σ1 k1 ha1 => ?_
  have hw0 := coin_ge cs (n := 8) (by decide)
  have hw1 := coin_lt cs (n := 8) (by decide)
  generalize coin cs 8 = way at hw0 hw1
  have hkk : Keep [a] σ σ1 := (k0.wide (by simp)).trans k1
  have hc1' := k1 _ _ hc1 (by simpa using hLa)
  have hz1 : cs.tail.length ≤ 1000000 := Nat.le_trans (tail_le _) hz
  refine EX_cons (EX_If (TR_Compare rfl (EV_local he rfl rfl rfl (EV_int (OP_lt ⟨_, rfl, ?_⟩)))))
  split
  · rename_i hw2
    have hw2' : way < 2 := by simpa using hw2
    refine EX_cons ?_
    refine EX_Return ?_
    refine EV_Tuple ?_
    refine EVs_cons rfl ?_
    refine EV_Sub (fun _ _ => rfl) ?_
    refine EV_List ?_
    refine EVs_str ?_
    refine EVs_str ?_
    refine EVs_nil ⟨by simp, fun l hl => ?_⟩
    refine EV_local he rfl rfl rfl ?_
    obtain ⟨b, hb0, hb⟩ := vidx_map (fun b : Fin 3 => V.str (stS b)) [1, 2] hw0 (by simpa using hw2') (by omega)
    refine ⟨_, _, _, by simp only [seqOf, upd_same]; rfl, rfl, hb, ?_⟩
    have hla : l ≠ a := neF' ha1 hl
    have hc1l := (upd_ne (o := .list [V.str (stS 1), V.str (stS 2)]) (neF hc1' hl)).trans hc1'
    have ha1l := (upd_ne (o := .list [V.str (stS 1), V.str (stS 2)]) (neF ha1 hl)).trans ha1
    have kl : Keep [a] σ (upd σ1 l (.list [V.str (stS 1), V.str (stS 2)])) := hkk.updNew hl _
    replace hc1l : upd σ1 l (.list [.str "call", .str "builtin"]) (c'.L + 1) = _ := hc1l
    replace ha1l : upd σ1 l (.list [.str "call", .str "builtin"]) a = _ := ha1l
    replace kl : Keep [a] σ (upd σ1 l (.list [.str "call", .str "builtin"])) := kl
    generalize upd σ1 l (.list [.str "call", .str "builtin"]) = σl at hc1l ha1l kl
    refine EVs_int ?_
    refine EVs_cons rfl ?_
    refine EV_tcall (x := "tuple") he rfl rfl rfl rfl (by decide) rfl rfl rfl ?_
    refine EVs_cons rfl ?_
    refine EV_ListComp he rfl (by decide) rfl (by decide) rfl (fun _ => rfl) ?_
    refine EV_tcall (x := "range") he rfl rfl rfl rfl (by decide) rfl rfl rfl ?_
    refine EVs_cons rfl ?_
    refine EV_fcall (f := 415) he rfl rfl rfl rfl rfl rfl rfl ?_
    refine EVs_cons rfl ?_
    refine EV_cell he rfl rfl rfl hc1l ?_
    refine EVs_int ?_
    refine EVs_nil ?_
    refine c_coin (d := e) hd'.symm (by omega) (by decide) hz1 ha1l fun σ2 k2 ha2 => ?_
    have hq0 := coin_ge cs.tail (n := 4) (by decide)
    have hq1 := coin_lt cs.tail (n := 4) (by decide)
    obtain ⟨q, hq⟩ : ∃ q : Nat, coin cs.tail 4 = q := ⟨(coin cs.tail 4).toNat, by omega⟩
    rw [hq]
    refine EVs_nil ?_
    refine OP_range fun r t u v hr => ?_
    refine ⟨_, _, .range (n := q) (by omega) (upd_same _ _ _), fun c2 D hd2 he2 hD => ⟨trivial, ?_⟩⟩
    have k3 : Keep [a] σ (upd (upd σ2 r (.raw { cls := .type "range", data := .fields #[.int 0 t, .int (q : Nat) u, .int 1 v] })) D (.list [])) := ((kl.trans k2).updNew hr _).updNew hD _
    have hc3 : upd (upd σ2 r (.raw { cls := .type "range", data := .fields #[.int 0 t, .int (q : Nat) u, .int 1 v] })) D (.list []) (c'.L + 1) = _ :=
      Keep.updNew (Keep.updNew k2 hr _) hD _ _ _ hc1l (by simpa using hLa)
    have hDa : D ≠ a := neF' ((upd_ne (neF ha2 hr)).trans ha2) hD
    refine gen_CB Pc.toV (Pc.isT 2) hc3 (upd_same _ _ _) hDa ((upd_ne (Ne.symm hDa)).trans ((upd_ne (neF ha2 hr)).trans ha2)) (Nat.le_trans (tail_le _) hz1) (by simp [rangeV]; omega) ?_ ?_
    · intro ρ2 σ4 cs' Q' hc4 ha4 hz4 hQ
      refine EV_fcall (f := 420) he2 rfl rfl rfl rfl rfl rfl rfl ?_
      refine EVs_cons rfl ?_
      refine EV_cell he2 rfl rfl rfl hc4 ?_
      refine EVs_int ?_
      refine EVs_nil ?_
      exact c_thing 2 (d := e) (by omega) (by omega) hz4 ha4 hQ
    · intro σ5 ts cs' hD5 k5 ha5 hcs5 hts hl5
      refine EVs_nil ?_
      refine OP_tuple_list hD5 (by simp [hl5, rangeV]; omega) ?_
      refine EVs_nil ⟨by simp, ?_⟩
      have r := h (.st b 20 ts) cs' σ5 ⟨by rintro rfl; simp at hb0, by rw [hl5]; simp [rangeV]; omega, hts⟩ ?_ ha5 (Nat.le_trans hcs5 (Nat.le_trans (tail_le _) (tail_le _)))
      · rw [Pc.toV, Pc.toVs_map] at r
        exact r
      · refine Keep.drop (a := D) (fun b o e n => k5 b o (k3 b o e (by simp at n ⊢; exact n.2)) n) ?_
        exact ((kl.trans k2).updNew hr _).none hD (by simpa using hDa)
  rename_i hw2
  have hw2' : ¬ way < 2 := by simpa using hw2
  refine EX_nil (EX_cons (EX_If (TR_Compare rfl (EV_local he rfl rfl rfl (EV_int (OP_eq ⟨_, rfl, ?_⟩))))))
  split
  · refine EX_cons ?_
    refine EX_Name he rfl rfl ?_
    refine EV_fcall (f := 420) he rfl rfl rfl rfl rfl rfl rfl ?_
    refine EVs_cons rfl ?_
    refine EV_cell he rfl rfl rfl hc1' ?_
    refine EVs_int ?_
    refine EVs_nil ?_
    refine c_thing 2 (d := e) hd'.symm (by omega) hz1 ha1 fun l cs2 σ2 hl k2 ha2 hcs2 => ?_
    refine EX_cons ?_
    refine EX_Return ?_
    refine EV_Tuple ?_
    refine EVs_str ?_
    refine EVs_cons rfl ?_
    refine EV_local he rfl rfl rfl ?_
    refine EVs_cons rfl ?_
    refine EV_fcall (f := 420) he rfl rfl rfl rfl rfl rfl rfl ?_
    refine EVs_cons rfl ?_
    refine EV_cell he rfl rfl rfl (k2 _ _ hc1' (by simpa using hLa)) ?_
    refine EVs_int ?_
    refine EVs_nil ?_
    refine c_thing 2 (d := e) hd'.symm (by omega) (by omega) ha2 fun r cs3 σ3 hr k3 ha3 hcs3 => ?_
    refine EVs_nil ⟨by simp, ?_⟩
    exact h (.uni l r) cs3 σ3 ⟨hl, hr⟩ ((hkk.trans k2).trans k3) ha3 (Nat.le_trans hcs3 (Nat.le_trans hcs2 (tail_le _)))
  rename_i hw3
  have hw3' : way ≠ 2 := by simpa using hw3
  refine EX_nil (EX_cons (EX_If (TR_Compare rfl (EV_local he rfl rfl rfl (EV_int (OP_lt ⟨_, rfl, ?_⟩))))))
  split
  · rename_i hw4
    have hw4' : way < 6 := by simpa using hw4
    refine EX_cons ?_
    refine EX_Return ?_
    refine EV_Tuple ?_
    refine EVs_cons rfl ?_
    refine EV_Sub (fun _ _ => rfl) ?_
    refine EV_List ?_
    refine EVs_str ?_
    refine EVs_str ?_
    refine EVs_str ?_
    refine EVs_nil ⟨by simp, fun l hl => ?_⟩
    refine EV_BinOp ?_
    refine EV_local he rfl rfl rfl ?_
    refine EV_int ?_
    refine OP_sub ?_
    obtain ⟨b, _, hb⟩ := vidx_map (fun b => V.str (numS b)) [0, 1, 2] (k := way - 3) (by omega) (by simp; omega) (by omega)
    refine ⟨_, _, _, by simp only [seqOf, upd_same]; rfl, rfl, hb, ?_⟩
    have hla : l ≠ a := neF' ha1 hl
    have hc1l := (upd_ne (o := .list [.str "mark", .str "cutto", .str "level"]) (neF hc1' hl)).trans hc1'
    have ha1l := (upd_ne (o := .list [.str "mark", .str "cutto", .str "level"]) (neF ha1 hl)).trans ha1
    have kl : Keep [a] σ (upd σ1 l (.list [.str "mark", .str "cutto", .str "level"])) := hkk.updNew hl _
    generalize upd σ1 l (.list [.str "mark", .str "cutto", .str "level"]) = σl at hc1l ha1l kl
    refine EVs_cons rfl ?_
    refine EV_Sub (fun _ _ => rfl) ?_
    refine EV_List ?_
    refine EVs_int ?_
    refine EVs_int ?_
    refine EVs_int ?_
    refine EVs_cons rfl ?_
    refine EV_BinOp ?_
    refine EV_int ?_
    refine EV_int ?_
    refine OP_pow (by decide) (by decide +kernel) ?_
    refine EVs_int ?_
    refine EVs_int ?_
    refine EVs_nil ⟨by simp, fun l2 hl2 => ?_⟩
    refine EV_fcall (f := 415) he rfl rfl rfl rfl rfl rfl rfl ?_
    refine EVs_cons rfl ?_
    refine EV_cell he rfl rfl rfl ((upd_ne (neF hc1l hl2)).trans hc1l) ?_
    refine EVs_int ?_
    refine EVs_nil ?_
    refine c_coin (d := e) hd'.symm (by omega) (by decide) hz1 ((upd_ne (neF ha1l hl2)).trans ha1l) fun σ2 k2 ha2 => ?_
    obtain ⟨i, _, hi⟩ := vidx_map V.int [0, 7, 3, 10 ^ 20, 40, 12] (coin_ge cs.tail (n := 6) (by decide)) (coin_lt cs.tail (n := 6) (by decide)) (by have := coin_lt cs.tail (n := 6) (by decide); omega)
    have hla2 : l2 ≠ a := neF' ha1l hl2
    refine ⟨_, _, _, ?_, rfl, hi, EVs_nil ⟨by simp, h (.num b i) cs.tail.tail σ2 trivial (kl.trans (fun b o e n => k2 b o ((upd_ne (neF e hl2)).trans e) n)) ha2 (Nat.le_trans (tail_le _) (tail_le _))⟩⟩
    simp only [seqOf, k2 _ _ (upd_same _ _ _) (by simpa using hla2)]
    rfl
  · rename_i hw4
    have hw4' : ¬ way < 6 := by simpa using hw4
    refine EX_nil ?_
    refine EX_cons ?_
    refine EX_Return ?_
    refine EV_Sub (fun _ _ => rfl) ?_
    refine EV_List ?_
    refine EVs_cons rfl ?_
    refine EV_Tuple ?_
    refine EVs_str ?_
    refine EVs_nil ⟨by simp, ?_⟩
    refine EVs_cons rfl ?_
    refine EV_Tuple ?_
    refine EVs_str ?_
    refine EVs_nil ⟨by simp, ?_⟩
    refine EVs_nil ⟨by simp, fun l hl => ?_⟩
    refine EV_BinOp ?_
    refine EV_local he rfl rfl rfl ?_
    refine EV_int ?_
    refine OP_sub ?_
    obtain ⟨b, _, hb⟩ := vidx_map (fun b => V.tup [V.str (bareS b)]) [false, true] (k := way - 6) (by omega) (by simp; omega) (by omega)
    refine ⟨_, _, _, by simp only [seqOf, upd_same]; rfl, rfl, hb, ?_⟩
    exact h (.bare b) cs.tail _ trivial (hkk.updNew hl _) ((upd_ne (neF ha1 hl)).trans ha1) (tail_le _)
end
end RH
set_option Elab.async false
set_option maxRecDepth 100000
set_option maxHeartbeats 400000
set_option linter.all false
namespace RH
open PySem PySem.W PySem.Calls PyProof.Rows
section
variable {prog : Program} {w : World} {c : Cx w (hd1.heap_39 w.params)} {ρ : Loc} {σ : St} {Q : V → St → Prop}
theorem c_trace0 (n : Nat) (ih : ∀ m, m + 1 = n → ∀ {c : Cx w (hd1.heap_39 w.params)} {ρ : Loc} {σ : St} {Q : V → St → Prop} {d : Nat} (hd : d + 1 = c.d) (hdd : 110 + m ≤ d) {sh nu : Addr} (hne : sh ≠ nu) {p : Pc} (hp : p.ok m) {S : List V} {N : List Int}
   (h1 : σ sh = some (.list S)) (h2 : σ nu = some (.list (intl N))) (hz : S.length + p.shape.length ≤ 1000000) (hz2 : N.length + p.nums.length ≤ 1000000)
   (h : ∀ σ', Keep [sh, nu] σ σ' → σ' sh = some (.list (S ++ p.shape)) → σ' nu = some (.list (intl (N ++ p.nums))) → Q .none σ'),
   CF prog c 432 [p.toV, .loc sh, .loc nu] ρ σ Q)
   {d : Nat} (hd : d + 1 = c.d) (hdd : 110 + n ≤ d) {sh nu : Addr} (hne : sh ≠ nu) {p : Pc} (hp : p.ok n) {S : List V} {N : List Int}
   (h1 : σ sh = some (.list S)) (h2 : σ nu = some (.list (intl N))) (hz : S.length + p.shape.length ≤ 1000000) (hz2 : N.length + p.nums.length ≤ 1000000)
   (h : ∀ σ', Keep [sh, nu] σ σ' → σ' sh = some (.list (S ++ p.shape)) → σ' nu = some (.list (intl (N ++ p.nums))) → Q .none σ') :
   CF prog c 432 [p.toV, .loc sh, .loc nu] ρ σ Q := by
  refine CF_K (names := ["piece", "shape", "numbers"]) (hl := rfl) (d := d) hd rfl rfl (all3 fun a b c => by kernel_rfl) rfl (by decide) (by decide) (by decide) rfl rfl rfl fun c' hd' he => ?_
  obtain ⟨e, rfl⟩ : ∃ e, d = e + 1 := ⟨d - 1, by omega⟩
  cases p with
  | var i =>
    refine EX_cons (EX_If (TR_Compare rfl (EV_Sub (fun _ _ => rfl) (EV_local he rfl rfl rfl (EV_int ⟨_, 0, .str "v", rfl, rfl, rfl, EV_str (OP_eqs ⟨_, rfl, ?_⟩)⟩)))))
    rw [if_pos (by decide)]
    refine EX_cons (EX_Expr rfl rfl (EV_append rfl rfl rfl rfl rfl (EV_local he rfl rfl rfl ⟨sh, rfl, ⟨_, h1⟩, EV_str ⟨_, h1, by simp [Pc.shape] at hz; omega, ?_⟩⟩)))
    refine EX_cons (EX_Expr rfl rfl (EV_append rfl rfl rfl rfl rfl (EV_local he rfl rfl rfl ⟨nu, rfl, ⟨_, (upd_ne (Ne.symm hne)).trans h2⟩, EV_Sub (fun _ _ => rfl) (EV_local he rfl rfl rfl (EV_int ⟨_, 1, .int i, rfl, rfl, rfl, _, (upd_ne (Ne.symm hne)).trans h2, by simp [Pc.nums, intl] at hz2 ⊢; omega, ?_⟩))⟩)))
    refine EX_nil (EX_nil ?_)
    exact h _ (Keep.updIn (Keep.updIn (Keep.refl _ _) (by simp) _) (by simp) _) ((upd_ne hne).trans (upd_same _ _ _)) ((upd_same _ _ _).trans (by simp [intl, Pc.nums]))
  | leaf b =>
    rw [show Pc.toV (.leaf b) = .tup [.str (leafS b), .int (leafI b)] from leafV_eq b]
    refine EX_cons (EX_If (TR_Compare rfl (EV_Sub (fun _ _ => rfl) (EV_local he rfl rfl rfl (EV_int ⟨_, 0, .str (leafS b), rfl, rfl, rfl, EV_str (OP_eqs ⟨_, rfl, ?_⟩)⟩)))))
    rw [leafS_v, if_neg (by decide)]
    refine EX_cons (EX_If (TR_Compare rfl (EV_Sub (fun _ _ => rfl) (EV_local he rfl rfl rfl (EV_int ⟨_, 0, .str (leafS b), rfl, rfl, rfl, EV_str (OP_eqs ⟨_, rfl, ?_⟩)⟩)))))
    rw [leafS_u, if_neg (by decide)]
    refine EX_cons (EX_If (TR_Compare rfl (EV_bcall (x := "len") he rfl rfl rfl rfl (by decide) rfl rfl rfl (EVs_cons rfl (EV_local he rfl rfl rfl (EVs_nil (OP_len_tuple (vs := [.str (leafS b), .int (leafI b)]) (by simp) (EV_int (OP_eq ⟨_, rfl, ?_⟩)))))))))
    rw [if_neg (by simp)]
    refine EX_cons ?_
    refine EX_If ?_
    refine TR_Compare rfl ?_
    refine EV_Sub (fun _ _ => rfl) ?_
    refine EV_local he rfl rfl rfl ?_
    refine EV_int ⟨_, 0, .str (leafS b), rfl, rfl, rfl, ?_⟩
    refine EV_List ?_
    refine EVs_str ?_
    refine EVs_str ?_
    refine EVs_str ?_
    refine EVs_nil ⟨by simp, fun l hl => ?_⟩
    refine OP_inD (ys := mclV) (dys := mclD) (by omega) (.str _) (upd_same _ _ _) (mcl_VD _) (okD_str (leafS_ok b)) mcl_lay ⟨_, rfl, ?_⟩
    rw [mcl_leaf]
    have g1 : upd σ l (.list mclV) sh = some (.list S) := (upd_ne (neF h1 hl)).trans h1
    have g2 : upd σ l (.list mclV) nu = some (.list (intl N)) := (upd_ne (neF h2 hl)).trans h2
    have kl : Keep [sh, nu] σ (upd σ l (.list mclV)) := Keep.updNew (Keep.refl _ _) hl _
    change if _ then EX _ _ _ _ (upd σ l (.list mclV)) _ else EX _ _ _ _ (upd σ l (.list mclV)) _
    generalize upd σ l (.list mclV) = σl at g1 g2 kl
    rw [if_neg (by decide)]
    refine EX_cons (EX_Expr rfl rfl (EV_append rfl rfl rfl rfl rfl (EV_local he rfl rfl rfl ⟨sh, rfl, ⟨_, g1⟩, EV_local he rfl rfl rfl ⟨_, g1, by simp [Pc.shape] at hz; omega, ?_⟩⟩)))
    refine EX_nil (EX_nil (EX_nil (EX_nil (EX_nil ?_))))
    exact h _ (kl.updIn (by simp) _) ((upd_same _ _ _).trans (by simp [Pc.shape, Pc.toV, leafV_eq])) ((upd_ne (Ne.symm hne)).trans (g2.trans (by simp [Pc.nums])))
  | st k f as =>
    obtain ⟨m, rfl⟩ : ∃ m, n = m + 1 := by cases n with | zero => exact hp.elim | succ m => exact ⟨m, rfl⟩
    obtain ⟨hpl, hpr⟩ := hp
    simp only [Pc.shape, Pc.nums, List.length_cons] at hz hz2
    refine EX_cons (EX_If (TR_Compare rfl (EV_Sub (fun _ _ => rfl) (EV_local he rfl rfl rfl (EV_int ⟨_, 0, .str (stS k), rfl, rfl, rfl, EV_str (OP_eqs ⟨_, rfl, ?_⟩)⟩)))))
    rw [stS_v, if_neg (by decide)]
    refine EX_cons (EX_If (TR_Compare rfl (EV_Sub (fun _ _ => rfl) (EV_local he rfl rfl rfl (EV_int ⟨_, 0, .str (stS k), rfl, rfl, rfl, EV_str (OP_eqs ⟨_, rfl, ?_⟩)⟩)))))
    rw [stS_u, if_neg (by decide)]
    refine EX_cons (EX_If (TR_Compare rfl (EV_bcall (x := "len") he rfl rfl rfl rfl (by decide) rfl rfl rfl (EVs_cons rfl (EV_local he rfl rfl rfl (EVs_nil (OP_len_tuple (vs := [.str (stS k), .int f, .tup (Pc.toVs as)]) (by simp) (EV_int (OP_eq ⟨_, rfl, ?_⟩)))))))))
    rw [if_pos (by simp)]
    refine EX_cons ?_
    refine EX_Expr rfl rfl ?_
    refine EV_append rfl rfl rfl rfl rfl ?_
    refine EV_local he rfl rfl rfl ⟨sh, rfl, ⟨_, h1⟩, ?_⟩
    refine EV_Tuple ?_
    refine EVs_cons rfl ?_
    refine EV_Sub (fun _ _ => rfl) ?_
    refine EV_local he rfl rfl rfl ?_
    refine EV_int ⟨_, 0, .str (stS k), rfl, rfl, rfl, ?_⟩
    refine EVs_cons rfl ?_
    refine EV_Sub (fun _ _ => rfl) ?_
    refine EV_local he rfl rfl rfl ?_
    refine EV_int ⟨_, 1, .int f, rfl, rfl, rfl, ?_⟩
    refine EVs_cons rfl ?_
    refine EV_bcall (x := "len") he rfl rfl rfl rfl (by decide) rfl rfl rfl ?_
    refine EVs_cons rfl ?_
    refine EV_Sub (fun _ _ => rfl) ?_
    refine EV_local he rfl rfl rfl ?_
    refine EV_int ⟨_, 2, .tup (Pc.toVs as), rfl, rfl, rfl, ?_⟩
    refine EVs_nil ?_
    refine OP_len_tuple (by rw [Pc.toVs_map]; simp; omega) ?_
    refine EVs_nil ⟨by simp, _, h1, by omega, ?_⟩
    rw [show ((Pc.toVs as).length : Int) = (as.length : Nat) by rw [Pc.toVs_map]; simp]
    have g2 : upd σ sh (.list (S ++ [.tup [.str (stS k), .int f, .int (as.length : Nat)]])) nu = some (.list (intl N)) := (upd_ne (Ne.symm hne)).trans h2
    have k0 : Keep [sh, nu] σ (upd σ sh (.list (S ++ [.tup [.str (stS k), .int f, .int (as.length : Nat)]]))) := (Keep.refl _ _).updIn (by simp) _
    have g1 : upd σ sh (.list (S ++ [.tup [.str (stS k), .int f, .int (as.length : Nat)]])) sh = some (.list (S ++ [.tup [.str (stS k), .int f, .int (as.length : Nat)]])) := upd_same _ _ _
    generalize upd σ sh (.list (S ++ [.tup [.str (stS k), .int f, .int (as.length : Nat)]])) = σ0 at g1 g2 k0
    refine EX_cons ?_
    refine EX_For he rfl (fun _ => rfl) ?_
    refine EV_Sub (fun _ _ => rfl) ?_
    refine EV_local he rfl rfl rfl ?_
    refine EV_int ⟨_, 2, .tup (Pc.toVs as), rfl, rfl, rfl, ?_⟩
    refine ⟨_, _, .tuple, ?_⟩
    rw [Pc.toVs_map]
    refine FB_run (fun vs ρ σ' => Sub [("shape", .loc sh), ("numbers", .loc nu)] ρ ∧ Keep [sh, nu] σ0 σ' ∧ ∃ (r : List Pc) (S' : List V) (N' : List Int), vs = r.map Pc.toV ∧ (∀ a ∈ r, a.ok m) ∧
        σ' sh = some (.list S') ∧ σ' nu = some (.list (intl N')) ∧ S' ++ Pc.shapes r = S ++ Pc.shape (.st k f as) ∧ N' ++ Pc.numss r = N ++ Pc.nums (.st k f as))
      (fun ρ σ' => Keep [sh, nu] σ0 σ' ∧ σ' sh = some (.list (S ++ Pc.shape (.st k f as))) ∧ σ' nu = some (.list (intl (N ++ Pc.nums (.st k f as))))) ?_ ?_ ?_
      ⟨.cons rfl (.cons rfl .nil), .refl _ _, as, _, N, rfl, hpr, g1, g2, by simp [Pc.shape], rfl⟩
    · rintro v vs ρ1 σ1 ⟨hs, k1, r, S', N', hv, hr, g3, g4, e1, e2⟩
      cases r with
      | nil => cases hv
      | cons q r =>
      cases hv
      have l1 := congrArg List.length e1
      have l2 := congrArg List.length e2
      simp only [Pc.shapes, Pc.numss, Pc.shape, Pc.nums, List.length_append, List.length_cons] at l1 l2
      refine EX.sub (ρ' := lset [("shape", .loc sh), ("numbers", .loc nu)] "part" q.toV) (Sub.both hs) ?_
      refine EX_cons ?_
      refine EX_Expr rfl rfl ?_
      refine EV_fcall (f := 432) he rfl rfl rfl rfl rfl rfl rfl ?_
      refine EVs_cons rfl ?_
      refine EV_local he rfl rfl rfl ?_
      refine EVs_cons rfl ?_
      refine EV_local he rfl rfl rfl ?_
      refine EVs_cons rfl ?_
      refine EV_local he rfl rfl rfl ?_
      refine EVs_nil ?_
      refine ih m rfl (d := e) hd'.symm (by omega) hne (hr q (.head _)) g3 g4 (by omega) (by omega) fun σ2 k2 g5 g6 => ?_
      refine EX_nil ⟨trivial, .cons rfl (.cons rfl .nil), k1.trans k2, r, _, _, rfl, fun a ha => hr a (.tail _ ha), g5, g6, ?_, ?_⟩
      · rw [← e1]; simp [Pc.shapes]
      · rw [← e2]; simp [Pc.numss]
    · rintro ρ1 σ1 ⟨hs, k1, r, S', N', hv, hr, g3, g4, e1, e2⟩
      cases r with
      | cons q r => cases hv
      | nil => exact ⟨k1, by rw [g3, ← e1]; simp [Pc.shapes], by rw [g4, ← e2]; simp [Pc.numss]⟩
    · rintro ρ1 σ1 ⟨k1, g3, g4⟩
      refine EX_nil (EX_nil (EX_nil (EX_nil ?_)))
      exact h _ (k0.trans k1) g3 g4
  | uni l r =>
    obtain ⟨m, rfl⟩ : ∃ m, n = m + 1 := by cases n with | zero => exact hp.elim | succ m => exact ⟨m, rfl⟩
    obtain ⟨hpl, hpr⟩ := hp
    simp only [Pc.shape, Pc.nums, List.length_cons, List.length_append] at hz hz2
    refine EX_cons (EX_If (TR_Compare rfl (EV_Sub (fun _ _ => rfl) (EV_local he rfl rfl rfl (EV_int ⟨_, 0, .str "unify", rfl, rfl, rfl, EV_str (OP_eqs ⟨_, rfl, ?_⟩)⟩)))))
    rw [if_neg (by decide)]
    refine EX_cons (EX_If (TR_Compare rfl (EV_Sub (fun _ _ => rfl) (EV_local he rfl rfl rfl (EV_int ⟨_, 0, .str "unify", rfl, rfl, rfl, EV_str (OP_eqs ⟨_, rfl, ?_⟩)⟩)))))
    rw [if_pos (by decide)]
    refine EX_cons (EX_Expr rfl rfl (EV_append rfl rfl rfl rfl rfl (EV_local he rfl rfl rfl ⟨sh, rfl, ⟨_, h1⟩, EV_str ⟨_, h1, by omega, ?_⟩⟩)))
    have g2 : upd σ sh (.list (S ++ [.str "unify"])) nu = some (.list (intl N)) := (upd_ne (Ne.symm hne)).trans h2
    have k0 : Keep [sh, nu] σ (upd σ sh (.list (S ++ [.str "unify"]))) := (Keep.refl _ _).updIn (by simp) _
    have g1 : upd σ sh (.list (S ++ [.str "unify"])) sh = some (.list (S ++ [.str "unify"])) := upd_same _ _ _
    generalize upd σ sh (.list (S ++ [.str "unify"])) = σ0 at g1 g2 k0
    refine EX_cons ?_
    refine EX_Expr rfl rfl ?_
    refine EV_fcall (f := 432) he rfl rfl rfl rfl rfl rfl rfl ?_
    refine EVs_cons rfl ?_
    refine EV_Sub (fun _ _ => rfl) ?_
    refine EV_local he rfl rfl rfl ?_
    refine EV_int ⟨_, 1, l.toV, rfl, rfl, rfl, ?_⟩
    refine EVs_cons rfl ?_
    refine EV_local he rfl rfl rfl ?_
    refine EVs_cons rfl ?_
    refine EV_local he rfl rfl rfl ?_
    refine EVs_nil ?_
    refine ih m rfl (d := e) hd'.symm (by omega) hne hpl g1 g2 (by simp; omega) (by omega) fun σ1 k1 g3 g4 => ?_
    refine EX_cons ?_
    refine EX_Expr rfl rfl ?_
    refine EV_fcall (f := 432) he rfl rfl rfl rfl rfl rfl rfl ?_
    refine EVs_cons rfl ?_
    refine EV_Sub (fun _ _ => rfl) ?_
    refine EV_local he rfl rfl rfl ?_
    refine EV_int ⟨_, 2, r.toV, rfl, rfl, rfl, ?_⟩
    refine EVs_cons rfl ?_
    refine EV_local he rfl rfl rfl ?_
    refine EVs_cons rfl ?_
    refine EV_local he rfl rfl rfl ?_
    refine EVs_nil ?_
    refine ih m rfl (d := e) hd'.symm (by omega) hne hpr g3 g4 (by simp; omega) (by simp; omega) fun σ2 k2 g5 g6 => ?_
    refine EX_nil (EX_nil (EX_nil ?_))
    exact h _ ((k0.trans k1).trans k2) (g5.trans (by simp [Pc.shape])) (g6.trans (by simp [Pc.nums]))
  | num k i =>
    refine EX_cons (EX_If (TR_Compare rfl (EV_Sub (fun _ _ => rfl) (EV_local he rfl rfl rfl (EV_int ⟨_, 0, .str (numS k), rfl, rfl, rfl, EV_str (OP_eqs ⟨_, rfl, ?_⟩)⟩)))))
    rw [numS_v, if_neg (by decide)]
    refine EX_cons (EX_If (TR_Compare rfl (EV_Sub (fun _ _ => rfl) (EV_local he rfl rfl rfl (EV_int ⟨_, 0, .str (numS k), rfl, rfl, rfl, EV_str (OP_eqs ⟨_, rfl, ?_⟩)⟩)))))
    rw [numS_u, if_neg (by decide)]
    refine EX_cons (EX_If (TR_Compare rfl (EV_bcall (x := "len") he rfl rfl rfl rfl (by decide) rfl rfl rfl (EVs_cons rfl (EV_local he rfl rfl rfl (EVs_nil (OP_len_tuple (vs := [.str (numS k), .int i]) (by simp) (EV_int (OP_eq ⟨_, rfl, ?_⟩)))))))))
    rw [if_neg (by simp)]
    refine EX_cons ?_
    refine EX_If ?_
    refine TR_Compare rfl ?_
    refine EV_Sub (fun _ _ => rfl) ?_
    refine EV_local he rfl rfl rfl ?_
    refine EV_int ⟨_, 0, .str (numS k), rfl, rfl, rfl, ?_⟩
    refine EV_List ?_
    refine EVs_str ?_
    refine EVs_str ?_
    refine EVs_str ?_
    refine EVs_nil ⟨by simp, fun l hl => ?_⟩
    refine OP_inD (ys := mclV) (dys := mclD) (by omega) (.str _) (upd_same _ _ _) (mcl_VD _) (okD_str (numS_ok k)) mcl_lay ⟨_, rfl, ?_⟩
    rw [mcl_num]
    have g1 : upd σ l (.list mclV) sh = some (.list S) := (upd_ne (neF h1 hl)).trans h1
    have g2 : upd σ l (.list mclV) nu = some (.list (intl N)) := (upd_ne (neF h2 hl)).trans h2
    have kl : Keep [sh, nu] σ (upd σ l (.list mclV)) := Keep.updNew (Keep.refl _ _) hl _
    change if _ then EX _ _ _ _ (upd σ l (.list mclV)) _ else EX _ _ _ _ (upd σ l (.list mclV)) _
    generalize upd σ l (.list mclV) = σl at g1 g2 kl
    rw [if_pos (by decide)]
    refine EX_cons (EX_Expr rfl rfl (EV_append rfl rfl rfl rfl rfl (EV_local he rfl rfl rfl ⟨sh, rfl, ⟨_, g1⟩, EV_Sub (fun _ _ => rfl) (EV_local he rfl rfl rfl (EV_int ⟨_, 0, .str (numS k), rfl, rfl, rfl, _, g1, by simp [Pc.shape] at hz; omega, ?_⟩))⟩)))
    refine EX_cons (EX_Expr rfl rfl (EV_append rfl rfl rfl rfl rfl (EV_local he rfl rfl rfl ⟨nu, rfl, ⟨_, (upd_ne (Ne.symm hne)).trans g2⟩, EV_Sub (fun _ _ => rfl) (EV_local he rfl rfl rfl (EV_int ⟨_, 1, .int i, rfl, rfl, rfl, _, (upd_ne (Ne.symm hne)).trans g2, by simp [Pc.nums, intl] at hz2 ⊢; omega, ?_⟩))⟩)))
    refine EX_nil (EX_nil (EX_nil (EX_nil (EX_nil ?_))))
    exact h _ (Keep.updIn (Keep.updIn kl (by simp) _) (by simp) _) ((upd_ne hne).trans (upd_same _ _ _)) ((upd_same _ _ _).trans (by simp [intl, Pc.nums]))
  | bare b =>
    refine EX_cons (EX_If (TR_Compare rfl (EV_Sub (fun _ _ => rfl) (EV_local he rfl rfl rfl (EV_int ⟨_, 0, .str (bareS b), rfl, rfl, rfl, EV_str (OP_eqs ⟨_, rfl, ?_⟩)⟩)))))
    rw [bareS_v, if_neg (by decide)]
    refine EX_cons (EX_If (TR_Compare rfl (EV_Sub (fun _ _ => rfl) (EV_local he rfl rfl rfl (EV_int ⟨_, 0, .str (bareS b), rfl, rfl, rfl, EV_str (OP_eqs ⟨_, rfl, ?_⟩)⟩)))))
    rw [bareS_u, if_neg (by decide)]
    refine EX_cons (EX_If (TR_Compare rfl (EV_bcall (x := "len") he rfl rfl rfl rfl (by decide) rfl rfl rfl (EVs_cons rfl (EV_local he rfl rfl rfl (EVs_nil (OP_len_tuple (vs := [.str (bareS b)]) (by simp) (EV_int (OP_eq ⟨_, rfl, ?_⟩)))))))))
    rw [if_neg (by simp)]
    refine EX_cons ?_
    refine EX_If ?_
    refine TR_Compare rfl ?_
    refine EV_Sub (fun _ _ => rfl) ?_
    refine EV_local he rfl rfl rfl ?_
    refine EV_int ⟨_, 0, .str (bareS b), rfl, rfl, rfl, ?_⟩
    refine EV_List ?_
    refine EVs_str ?_
    refine EVs_str ?_
    refine EVs_str ?_
    refine EVs_nil ⟨by simp, fun l hl => ?_⟩
    refine OP_inD (ys := mclV) (dys := mclD) (by omega) (.str _) (upd_same _ _ _) (mcl_VD _) (okD_str (bareS_ok b)) mcl_lay ⟨_, rfl, ?_⟩
    rw [mcl_bare]
    have g1 : upd σ l (.list mclV) sh = some (.list S) := (upd_ne (neF h1 hl)).trans h1
    have g2 : upd σ l (.list mclV) nu = some (.list (intl N)) := (upd_ne (neF h2 hl)).trans h2
    have kl : Keep [sh, nu] σ (upd σ l (.list mclV)) := Keep.updNew (Keep.refl _ _) hl _
    change if _ then EX _ _ _ _ (upd σ l (.list mclV)) _ else EX _ _ _ _ (upd σ l (.list mclV)) _
    generalize upd σ l (.list mclV) = σl at g1 g2 kl
    rw [if_neg (by decide)]
    refine EX_cons (EX_Expr rfl rfl (EV_append rfl rfl rfl rfl rfl (EV_local he rfl rfl rfl ⟨sh, rfl, ⟨_, g1⟩, EV_local he rfl rfl rfl ⟨_, g1, by simp [Pc.shape] at hz; omega, ?_⟩⟩)))
    refine EX_nil (EX_nil (EX_nil (EX_nil (EX_nil ?_))))
    exact h _ (kl.updIn (by simp) _) ((upd_same _ _ _).trans (by simp [Pc.shape, Pc.toV, leafV_eq])) ((upd_ne (Ne.symm hne)).trans (g2.trans (by simp [Pc.nums])))
theorem c_trace (n : Nat) : ∀ {c : Cx w (hd1.heap_39 w.params)} {ρ : Loc} {σ : St} {Q : V → St → Prop} {d : Nat} (hd : d + 1 = c.d) (hdd : 110 + n ≤ d) {sh nu : Addr} (hne : sh ≠ nu) {p : Pc} (hp : p.ok n) {S : List V} {N : List Int}
   (h1 : σ sh = some (.list S)) (h2 : σ nu = some (.list (intl N))) (hz : S.length + p.shape.length ≤ 1000000) (hz2 : N.length + p.nums.length ≤ 1000000)
   (h : ∀ σ', Keep [sh, nu] σ σ' → σ' sh = some (.list (S ++ p.shape)) → σ' nu = some (.list (intl (N ++ p.nums))) → Q .none σ'),
   CF prog c 432 [p.toV, .loc sh, .loc nu] ρ σ Q := by
  induction n with
  | zero =>
    intro c ρ σ Q d hd hdd sh nu hne p hp S N h1 h2 hz hz2 h
    exact c_trace0 0 (fun m hm => absurd hm (Nat.succ_ne_zero m)) hd hdd hne hp h1 h2 hz hz2 h
  | succ m ih =>
    intro c ρ σ Q d hd hdd sh nu hne p hp S N h1 h2 hz hz2 h
    exact c_trace0 (m + 1) (fun k hk => by obtain rfl : k = m := Nat.succ.inj hk; exact ih) hd hdd hne hp h1 h2 hz hz2 h
end
end RH
set_option Elab.async false
set_option maxRecDepth 100000
set_option maxHeartbeats 400000
set_option linter.all false
namespace RH
open PySem PySem.W PySem.Calls PyProof.Rows
section
variable {prog : Program} {w : World} {c : Cx w (hd1.heap_39 w.params)} {ρ : Loc} {σ : St} {Q : V → St → Prop}
theorem c_traced {d : Nat} (hd : d + 1 = c.d) (hdd : 130 ≤ d) {ga : Addr} {as gs : List Pc} (ha : ∀ p ∈ as, p.ok 3) (hg : ∀ p ∈ gs, p.ok 3) (hz : as.length + gs.length ≤ 100) (h1 : σ ga = some (.list (gs.map Pc.toV)))
   (h : ∀ σ' sh nu, σ sh = none → σ nu = none → Keep [] σ σ' → σ' sh = some (.list ([.int (as.length : Nat), .int (gs.length : Nat)] ++ Pc.shapes (as ++ gs))) → σ' nu = some (.list (intl (Pc.numss (as ++ gs)))) → Q (.tup [.loc sh, .loc nu]) σ') :
   CF prog c 439 [.tup (as.map Pc.toV), .loc ga] ρ σ Q := by
  refine CF_K (names := ["args", "goals"]) (hl := rfl) (d := d) hd rfl rfl (all2 fun a b => by kernel_rfl) rfl (by decide) (by decide) (by decide) rfl rfl rfl fun c' hd' he => ?_
  obtain ⟨e, rfl⟩ : ∃ e, d = e + 1 := ⟨d - 1, by omega⟩
  refine EX_cons ?_
  refine EX_Name he rfl rfl ?_
  refine EV_List ?_
  refine EVs_cons rfl ?_
  refine EV_bcall (x := "len") he rfl rfl rfl rfl (by decide) rfl rfl rfl ?_
  refine EVs_cons rfl ?_
  refine EV_local he rfl rfl rfl ?_
  refine EVs_nil ?_
  refine OP_len_tuple (by simp; omega) ?_
  refine EVs_cons rfl ?_
  refine EV_bcall (x := "len") he rfl rfl rfl rfl (by decide) rfl rfl rfl ?_
  refine EVs_cons rfl ?_
  refine EV_local he rfl rfl rfl ?_
  refine EVs_nil ?_
  refine OP_len_list h1 (by simp; omega) ?_
  refine EVs_nil ⟨by simp, fun sh hsh => ?_⟩
  rw [show ((as.map Pc.toV).length : Int) = (as.length : Nat) by simp, show ((gs.map Pc.toV).length : Int) = (gs.length : Nat) by simp]
  have k1 : Keep [] σ (upd σ sh (.list [.int (as.length : Nat), .int (gs.length : Nat)])) := (Keep.refl _ _).updNew hsh _
  have g1 : upd σ sh (.list [.int (as.length : Nat), .int (gs.length : Nat)]) sh = some (.list [.int (as.length : Nat), .int (gs.length : Nat)]) := upd_same _ _ _
  generalize upd σ sh (.list [.int (as.length : Nat), .int (gs.length : Nat)]) = σ1 at k1 g1
  refine EX_cons ?_
  refine EX_Name he rfl rfl ?_
  refine EV_List ?_
  refine EVs_nil ⟨by simp, fun nu hnu => ?_⟩
  have k2 : Keep [] σ (upd σ1 nu (.list [])) := k1.updNew hnu _
  have g2 : upd σ1 nu (.list []) sh = some (.list [.int (as.length : Nat), .int (gs.length : Nat)]) := (upd_ne (neF g1 hnu)).trans g1
  have g3 : upd σ1 nu (.list []) nu = some (.list (intl [])) := upd_same _ _ _
  have hne : sh ≠ nu := neF g1 hnu
  have hnu0 : σ nu = none := k1.none hnu (by simp)
  generalize upd σ1 nu (.list []) = σ2 at k2 g2 g3
  refine EX_cons ?_
  refine EX_For he rfl (fun _ => rfl) ?_
  refine EV_BinOp ?_
  refine EV_tcall (x := "list") he rfl rfl rfl rfl (by decide) rfl rfl rfl ?_
  refine EVs_cons rfl ?_
  refine EV_local he rfl rfl rfl ?_
  refine EVs_nil ?_
  refine OP_list_tup (by simp; omega) fun l1 hl1 => ?_
  refine EV_tcall (x := "list") he rfl rfl rfl rfl (by decide) rfl rfl rfl ?_
  refine EVs_cons rfl ?_
  refine EV_local he rfl rfl rfl ?_
  refine EVs_nil ?_
  refine OP_list_list ((upd_ne (neF (k2 _ _ h1 (by simp)) hl1)).trans (k2 _ _ h1 (by simp))) (by simp; omega) fun l2 hl2 => ?_
  refine OP_addL ((upd_ne (neF (upd_same _ _ _) hl2)).trans (upd_same _ _ _)) (upd_same _ _ _) (by simp; omega) fun l3 hl3 => ?_
  have k3 : Keep [] σ2 (upd (upd (upd σ2 l1 (.list (as.map Pc.toV))) l2 (.list (gs.map Pc.toV))) l3 (.list (as.map Pc.toV ++ gs.map Pc.toV))) := (((Keep.refl _ _).updNew hl1 _).updNew hl2 _).updNew hl3 _
  have k4 := k2.trans k3
  have g4 := k3 _ _ g2 (by simp)
  have g5 := k3 _ _ g3 (by simp)
  have g6 : upd (upd (upd σ2 l1 (.list (as.map Pc.toV))) l2 (.list (gs.map Pc.toV))) l3 (.list (as.map Pc.toV ++ gs.map Pc.toV)) l3 = some (.list ((as ++ gs).map Pc.toV)) := (upd_same _ _ _).trans (by simp)
  have n3 : l3 ≠ sh ∧ l3 ≠ nu := ⟨neF' ((Keep.updNew ((Keep.refl [] _).updNew hl1 _) hl2 _) _ _ g2 (by simp)) hl3, neF' ((Keep.updNew ((Keep.refl [] _).updNew hl1 _) hl2 _) _ _ g3 (by simp)) hl3⟩
  generalize upd (upd (upd σ2 l1 (.list (as.map Pc.toV))) l2 (.list (gs.map Pc.toV))) l3 (.list (as.map Pc.toV ++ gs.map Pc.toV)) = σ3 at k4 g4 g5 g6
  have hall : ∀ p ∈ as ++ gs, p.ok 3 := fun p hp => (List.mem_append.mp hp).elim (ha p) (hg p)
  have hlen := Pc.shapes_len (l := as ++ gs) (m := 64) fun p hp => Pc.len (hall p hp)
  have hl' : (as ++ gs).length * 64 ≤ 6400 := by simp; omega
  refine ⟨_, _, .list g6, ?_⟩
  generalize as ++ gs = ps at g6 hall hlen hl' h
  refine FB_run (fun vs ρ σ' => Sub [("shape", .loc sh), ("numbers", .loc nu)] ρ ∧ Keep [sh, nu] σ3 σ' ∧ ∃ (r : List Pc) (S' : List V) (N' : List Int), vs = r.map Pc.toV ∧ (∀ a ∈ r, a.ok 3) ∧
      σ' sh = some (.list S') ∧ σ' nu = some (.list (intl N')) ∧ S' ++ Pc.shapes r = [.int (as.length : Nat), .int (gs.length : Nat)] ++ Pc.shapes ps ∧ N' ++ Pc.numss r = Pc.numss ps)
    (fun ρ σ' => Sub [("shape", .loc sh), ("numbers", .loc nu)] ρ ∧ Keep [sh, nu] σ3 σ' ∧ σ' sh = some (.list ([.int (as.length : Nat), .int (gs.length : Nat)] ++ Pc.shapes ps)) ∧ σ' nu = some (.list (intl (Pc.numss ps)))) ?_ ?_ ?_
    ⟨.cons rfl (.cons rfl .nil), .refl _ _, ps, _, [], by simp, hall, g4, g5, rfl, rfl⟩
  · rintro v vs ρ1 σ1 ⟨hs, k1, r, S', N', hv, hr, g3, g4, e1, e2⟩
    cases r with
    | nil => cases hv
    | cons q r =>
    cases hv
    have l1 := congrArg List.length e1
    have l2 := congrArg List.length e2
    simp only [Pc.shapes, Pc.numss, List.length_append, List.length_cons, List.length_nil] at l1 l2
    refine EX.sub (ρ' := lset [("shape", .loc sh), ("numbers", .loc nu)] "piece" q.toV) (Sub.both hs) ?_
    refine EX_cons ?_
    refine EX_Expr rfl rfl ?_
    refine EV_fcall (f := 432) he rfl rfl rfl rfl rfl rfl rfl ?_
    refine EVs_cons rfl ?_
    refine EV_local he rfl rfl rfl ?_
    refine EVs_cons rfl ?_
    refine EV_local he rfl rfl rfl ?_
    refine EVs_cons rfl ?_
    refine EV_local he rfl rfl rfl ?_
    refine EVs_nil ?_
    refine c_trace 3 (d := e) hd'.symm (by omega) hne (hr q (.head _)) g3 g4 (by omega) (by omega) fun σ2 k2 g5 g7 => ?_
    refine EX_nil ⟨k2 _ _ (k1 _ _ g6 (by simp [n3])) (by simp [n3]), .cons rfl (.cons rfl .nil), k1.trans k2, r, _, _, rfl, fun a ha => hr a (.tail _ ha), g5, g7, ?_, ?_⟩
    · rw [← e1]; simp [Pc.shapes]
    · rw [← e2]; simp [Pc.numss]
  · rintro ρ1 σ1 ⟨hs, k1, r, S', N', hv, hr, g3, g4, e1, e2⟩
    cases r with
    | cons q r => cases hv
    | nil => exact ⟨hs, k1, by rw [g3, ← e1]; simp [Pc.shapes], by rw [g4, ← e2]; simp [Pc.numss]⟩
  · rintro ρ1 σ1 ⟨hs, k1, g3, g4⟩
    refine EX.sub hs ?_
    refine EX_cons ?_
    refine EX_Return ?_
    refine EV_Tuple ?_
    refine EVs_cons rfl ?_
    refine EV_local he rfl rfl rfl ?_
    refine EVs_cons rfl ?_
    refine EV_local he rfl rfl rfl ?_
    refine EVs_nil ⟨by simp, ?_⟩
    exact h σ1 sh nu hsh hnu0 (Keep.drop (Keep.drop (fun b o e n => k1 b o (k4 b o e (by simp)) n) hsh) hnu0) g3 g4
end
end RH
set_option Elab.async false
set_option maxRecDepth 100000
set_option maxHeartbeats 400000
set_option linter.all false
namespace RH
open PySem PySem.W PySem.Calls PyProof.Rows
section
variable {prog : Program} {w : World} {c : Cx w (hd1.heap_39 w.params)} {ρ : Loc} {σ : St} {Q : V → St → Prop}
theorem c_moved0 (n : Nat) (ih : ∀ m, m + 1 = n → ∀ {c : Cx w (hd1.heap_39 w.params)} {ρ : Loc} {σ : St} {Q : V → St → Prop} {d : Nat} (hd : d + 1 = c.d) (hdd : 110 + m ≤ d) {tm pl : Int} (hb : Builtin.Int.intBits tm ≤ 64) {p : Pc} (hp : p.ok m)
   (h : ∀ σ', Keep [] σ σ' → Q (p.ren (mov tm pl)).toV σ'), CF prog c 444 [p.toV, .int tm, .int pl] ρ σ Q)
   {d : Nat} (hd : d + 1 = c.d) (hdd : 110 + n ≤ d) {tm pl : Int} (hb : Builtin.Int.intBits tm ≤ 64) {p : Pc} (hp : p.ok n)
   (h : ∀ σ', Keep [] σ σ' → Q (p.ren (mov tm pl)).toV σ') : CF prog c 444 [p.toV, .int tm, .int pl] ρ σ Q := by
  refine CF_KC (names := ["piece", "times", "plus"]) (hl := rfl) (d := d) hd rfl rfl (all3 fun a b c S => by kernel_rfl) rfl (by decide) rfl rfl rfl fun c' hd' he hfr => ?_
  obtain ⟨e, rfl⟩ : ∃ e, d = e + 1 := ⟨d - 1, by omega⟩
  generalize hσ : cellS _ σ _ = σ0
  obtain ⟨k0, hc1, hc2⟩ : Keep [] σ σ0 ∧ σ0 (c'.L + 1) = some (.cell (some (.int tm))) ∧ σ0 (c'.L + 1 + 1) = some (.cell (some (.int pl))) := by
    rw [← hσ]
    exact cells2 (x := some (.int tm)) (y := some (.int pl)) hfr
  refine EX.sub (ρ' := [("piece", p.toV)]) (Sub.cons rfl .nil) ?_
  cases p with
  | var i =>
    refine EX_cons ?_
    refine EX_If ?_
    refine TR_Compare rfl ?_
    refine EV_Sub (fun _ _ => rfl) ?_
    refine EV_local he rfl rfl rfl ?_
    refine EV_int ⟨_, 0, .str "v", rfl, rfl, rfl, ?_⟩
    refine EV_List ?_
    refine EVs_str ?_
    refine EVs_str ?_
    refine EVs_str ?_
    refine EVs_str ?_
    refine EVs_nil ⟨by simp, fun l hl => ?_⟩
    refine OP_inD (ys := vmclV) (dys := vmclD) (by omega) (.str _) (upd_same _ _ _) (vmcl_VD _) (okD_str (by decide +kernel)) vmcl_lay ⟨_, rfl, ?_⟩
    rw [vmcl_var, if_pos (by decide)]
    have g1 : upd σ0 l (.list vmclV) (c'.L + 1) = _ := (upd_ne (neF hc1 hl)).trans hc1
    have g2 : upd σ0 l (.list vmclV) (c'.L + 1 + 1) = _ := (upd_ne (neF hc2 hl)).trans hc2
    have kl : Keep [] σ (upd σ0 l (.list vmclV)) := Keep.updNew k0 hl _
    change EX _ _ _ _ (upd σ0 l (.list vmclV)) _
    generalize upd σ0 l (.list vmclV) = σl at g1 g2 kl
    refine EX_cons ?_
    refine EX_Return ?_
    refine EV_Tuple ?_
    refine EVs_cons rfl ?_
    refine EV_Sub (fun _ _ => rfl) ?_
    refine EV_local he rfl rfl rfl ?_
    refine EV_int ⟨_, 0, .str "v", rfl, rfl, rfl, ?_⟩
    refine EVs_cons rfl ?_
    refine EV_BinOp ?_
    refine EV_BinOp ?_
    refine EV_Sub (fun _ _ => rfl) ?_
    refine EV_local he rfl rfl rfl ?_
    refine EV_int ⟨_, 1, .int i, rfl, rfl, rfl, ?_⟩
    refine EV_cell he rfl rfl rfl g1 ?_
    refine OP_mul (IntMulOk.of_right hb) ?_
    refine EV_cell he rfl rfl rfl g2 ?_
    refine OP_add ?_
    refine EVs_nil ⟨by simp, ?_⟩
    exact h _ kl
  | leaf b =>
    rw [show Pc.toV (.leaf b) = .tup [.str (leafS b), .int (leafI b)] from leafV_eq b]
    refine EX_cons ?_
    refine EX_If ?_
    refine TR_Compare rfl ?_
    refine EV_Sub (fun _ _ => rfl) ?_
    refine EV_local he rfl rfl rfl ?_
    refine EV_int ⟨_, 0, .str (leafS b), rfl, rfl, rfl, ?_⟩
    refine EV_List ?_
    refine EVs_str ?_
    refine EVs_str ?_
    refine EVs_str ?_
    refine EVs_str ?_
    refine EVs_nil ⟨by simp, fun l hl => ?_⟩
    refine OP_inD (ys := vmclV) (dys := vmclD) (by omega) (.str _) (upd_same _ _ _) (vmcl_VD _) (okD_str (leafS_ok b)) vmcl_lay ⟨_, rfl, ?_⟩
    rw [vmcl_leaf, if_neg (by decide)]
    have g1 : upd σ0 l (.list vmclV) (c'.L + 1) = _ := (upd_ne (neF hc1 hl)).trans hc1
    have g2 : upd σ0 l (.list vmclV) (c'.L + 1 + 1) = _ := (upd_ne (neF hc2 hl)).trans hc2
    have kl : Keep [] σ (upd σ0 l (.list vmclV)) := Keep.updNew k0 hl _
    change EX _ _ _ _ (upd σ0 l (.list vmclV)) _
    generalize upd σ0 l (.list vmclV) = σl at g1 g2 kl
    refine EX_nil (EX_cons (EX_If (TR_Compare rfl (EV_Sub (fun _ _ => rfl) (EV_local he rfl rfl rfl (EV_int ⟨_, 0, .str (leafS b), rfl, rfl, rfl, EV_str (OP_eqs ⟨_, rfl, ?_⟩)⟩))))))
    rw [leafS_u, if_neg (by decide)]
    refine EX_nil (EX_cons (EX_If (TR_Compare rfl (EV_bcall (x := "len") he rfl rfl rfl rfl (by decide) rfl rfl rfl (EVs_cons rfl (EV_local he rfl rfl rfl (EVs_nil (OP_len_tuple (vs := [.str (leafS b), .int (leafI b)]) (by simp) (EV_int (OP_eq ⟨_, rfl, ?_⟩))))))))))
    rw [if_neg (by simp)]
    refine EX_nil ?_
    refine EX_cons ?_
    refine EX_Return ?_
    refine EV_local he rfl rfl rfl ?_
    have r := h _ kl
    rw [show (Pc.ren (mov tm pl) (.leaf b)).toV = .tup [.str (leafS b), .int (leafI b)] from leafV_eq b] at r
    exact r
  | st k f as =>
    obtain ⟨m, rfl⟩ : ∃ m, n = m + 1 := by cases n with | zero => exact hp.elim | succ m => exact ⟨m, rfl⟩
    obtain ⟨hpl, hpr⟩ := hp
    refine EX_cons ?_
    refine EX_If ?_
    refine TR_Compare rfl ?_
    refine EV_Sub (fun _ _ => rfl) ?_
    refine EV_local he rfl rfl rfl ?_
    refine EV_int ⟨_, 0, .str (stS k), rfl, rfl, rfl, ?_⟩
    refine EV_List ?_
    refine EVs_str ?_
    refine EVs_str ?_
    refine EVs_str ?_
    refine EVs_str ?_
    refine EVs_nil ⟨by simp, fun l hl => ?_⟩
    refine OP_inD (ys := vmclV) (dys := vmclD) (by omega) (.str _) (upd_same _ _ _) (vmcl_VD _) (okD_str (stS_ok k)) vmcl_lay ⟨_, rfl, ?_⟩
    rw [vmcl_st, if_neg (by decide)]
    have g1 : upd σ0 l (.list vmclV) (c'.L + 1) = _ := (upd_ne (neF hc1 hl)).trans hc1
    have g2 : upd σ0 l (.list vmclV) (c'.L + 1 + 1) = _ := (upd_ne (neF hc2 hl)).trans hc2
    have kl : Keep [] σ (upd σ0 l (.list vmclV)) := Keep.updNew k0 hl _
    change EX _ _ _ _ (upd σ0 l (.list vmclV)) _
    generalize upd σ0 l (.list vmclV) = σl at g1 g2 kl
    refine EX_nil (EX_cons (EX_If (TR_Compare rfl (EV_Sub (fun _ _ => rfl) (EV_local he rfl rfl rfl (EV_int ⟨_, 0, .str (stS k), rfl, rfl, rfl, EV_str (OP_eqs ⟨_, rfl, ?_⟩)⟩))))))
    rw [stS_u, if_neg (by decide)]
    refine EX_nil (EX_cons (EX_If (TR_Compare rfl (EV_bcall (x := "len") he rfl rfl rfl rfl (by decide) rfl rfl rfl (EVs_cons rfl (EV_local he rfl rfl rfl (EVs_nil (OP_len_tuple (vs := [.str (stS k), .int f, .tup (Pc.toVs as)]) (by simp) (EV_int (OP_eq ⟨_, rfl, ?_⟩))))))))))
    rw [if_pos (by simp)]
    refine EX_cons ?_
    refine EX_Return ?_
    refine EV_Tuple ?_
    refine EVs_cons rfl ?_
    refine EV_Sub (fun _ _ => rfl) ?_
    refine EV_local he rfl rfl rfl ?_
    refine EV_int ⟨_, 0, .str (stS k), rfl, rfl, rfl, ?_⟩
    refine EVs_cons rfl ?_
    refine EV_Sub (fun _ _ => rfl) ?_
    refine EV_local he rfl rfl rfl ?_
    refine EV_int ⟨_, 1, .int f, rfl, rfl, rfl, ?_⟩
    refine EVs_cons rfl ?_
    refine EV_tcall (x := "tuple") he rfl rfl rfl rfl (by decide) rfl rfl rfl ?_
    refine EVs_cons rfl ?_
    refine EV_ListComp he rfl (by decide) rfl (by decide) rfl (fun _ => rfl) ?_
    refine EV_Sub (fun _ _ => rfl) ?_
    refine EV_local he rfl rfl rfl ?_
    refine EV_int ⟨_, 2, .tup (Pc.toVs as), rfl, rfl, rfl, ?_⟩
    refine ⟨_, _, .tuple, fun c2 D hd2 he2 hD => ⟨trivial, ?_⟩⟩
    rw [Pc.toVs_map]
    have g1D : upd σl D (.list []) (c'.L + 1) = _ := (upd_ne (neF g1 hD)).trans g1
    have g2D : upd σl D (.list []) (c'.L + 1 + 1) = _ := (upd_ne (neF g2 hD)).trans g2
    have kD : Keep [] σ (upd σl D (.list [])) := kl.updNew hD _
    refine map_CB Pc.toV Pc.toV (Pc.ren (mov tm pl)) (upd_same _ _ _) (by omega) (fun _ _ => trivial) ?_ ?_
    · intro a ha ρ2 σ2 Q' k2 hQ
      refine EV_fcall (f := 444) he2 rfl rfl rfl rfl rfl rfl rfl ?_
      refine EVs_cons rfl ?_
      refine EV_local he2 rfl rfl (V := a.toV) (by rw [lget_lset, if_pos rfl]) ?_
      refine EVs_cons rfl ?_
      refine EV_cell he2 rfl rfl rfl (k2 _ _ g1D (by simp; exact neF g1 hD)) ?_
      refine EVs_cons rfl ?_
      refine EV_cell he2 rfl rfl rfl (k2 _ _ g2D (by simp; exact neF g2 hD)) ?_
      refine EVs_nil ?_
      exact ih m rfl (d := e) (by omega) (by omega) hb (hpr a ha) hQ
    · intro σ3 hD3 k3
      refine EVs_nil ?_
      refine OP_tuple_list hD3 (by simp; omega) ?_
      refine EVs_nil ⟨by simp, ?_⟩
      have hDn : σ D = none := kl.none hD (by simp)
      have r := h σ3 (Keep.drop (a := D) (fun b o e n => k3 b o (kD b o e (by simp)) (by simpa using n)) hDn)
      rw [Pc.ren, Pc.toV, Pc.toVs_map, Pc.rens_map, List.map_map] at r
      exact r
  | uni l r =>
    obtain ⟨m, rfl⟩ : ∃ m, n = m + 1 := by cases n with | zero => exact hp.elim | succ m => exact ⟨m, rfl⟩
    obtain ⟨hpl, hpr⟩ := hp
    refine EX_cons ?_
    refine EX_If ?_
    refine TR_Compare rfl ?_
    refine EV_Sub (fun _ _ => rfl) ?_
    refine EV_local he rfl rfl rfl ?_
    refine EV_int ⟨_, 0, .str "unify", rfl, rfl, rfl, ?_⟩
    refine EV_List ?_
    refine EVs_str ?_
    refine EVs_str ?_
    refine EVs_str ?_
    refine EVs_str ?_
    refine EVs_nil ⟨by simp, fun l' hl => ?_⟩
    refine OP_inD (ys := vmclV) (dys := vmclD) (by omega) (.str _) (upd_same _ _ _) (vmcl_VD _) (okD_str (by decide +kernel)) vmcl_lay ⟨_, rfl, ?_⟩
    rw [vmcl_uni, if_neg (by decide)]
    have g1 : upd σ0 l' (.list vmclV) (c'.L + 1) = _ := (upd_ne (neF hc1 hl)).trans hc1
    have g2 : upd σ0 l' (.list vmclV) (c'.L + 1 + 1) = _ := (upd_ne (neF hc2 hl)).trans hc2
    have kl : Keep [] σ (upd σ0 l' (.list vmclV)) := Keep.updNew k0 hl _
    change EX _ _ _ _ (upd σ0 l' (.list vmclV)) _
    generalize upd σ0 l' (.list vmclV) = σl at g1 g2 kl
    refine EX_nil (EX_cons (EX_If (TR_Compare rfl (EV_Sub (fun _ _ => rfl) (EV_local he rfl rfl rfl (EV_int ⟨_, 0, .str "unify", rfl, rfl, rfl, EV_str (OP_eqs ⟨_, rfl, ?_⟩)⟩))))))
    rw [if_pos (by decide)]
    refine EX_cons ?_
    refine EX_Return ?_
    refine EV_Tuple ?_
    refine EVs_str ?_
    refine EVs_cons rfl ?_
    refine EV_fcall (f := 444) he rfl rfl rfl rfl rfl rfl rfl ?_
    refine EVs_cons rfl ?_
    refine EV_Sub (fun _ _ => rfl) ?_
    refine EV_local he rfl rfl rfl ?_
    refine EV_int ⟨_, 1, l.toV, rfl, rfl, rfl, ?_⟩
    refine EVs_cons rfl ?_
    refine EV_cell he rfl rfl rfl g1 ?_
    refine EVs_cons rfl ?_
    refine EV_cell he rfl rfl rfl g2 ?_
    refine EVs_nil ?_
    refine ih m rfl (d := e) hd'.symm (by omega) hb hpl fun σ1 k1 => ?_
    refine EVs_cons rfl ?_
    refine EV_fcall (f := 444) he rfl rfl rfl rfl rfl rfl rfl ?_
    refine EVs_cons rfl ?_
    refine EV_Sub (fun _ _ => rfl) ?_
    refine EV_local he rfl rfl rfl ?_
    refine EV_int ⟨_, 2, r.toV, rfl, rfl, rfl, ?_⟩
    refine EVs_cons rfl ?_
    refine EV_cell he rfl rfl rfl (k1 _ _ g1 (by simp)) ?_
    refine EVs_cons rfl ?_
    refine EV_cell he rfl rfl rfl (k1 _ _ g2 (by simp)) ?_
    refine EVs_nil ?_
    refine ih m rfl (d := e) hd'.symm (by omega) hb hpr fun σ2 k2 => ?_
    refine EVs_nil ⟨by simp, ?_⟩
    exact h _ ((kl.trans k1).trans k2)
  | num k i =>
    refine EX_cons ?_
    refine EX_If ?_
    refine TR_Compare rfl ?_
    refine EV_Sub (fun _ _ => rfl) ?_
    refine EV_local he rfl rfl rfl ?_
    refine EV_int ⟨_, 0, .str (numS k), rfl, rfl, rfl, ?_⟩
    refine EV_List ?_
    refine EVs_str ?_
    refine EVs_str ?_
    refine EVs_str ?_
    refine EVs_str ?_
    refine EVs_nil ⟨by simp, fun l hl => ?_⟩
    refine OP_inD (ys := vmclV) (dys := vmclD) (by omega) (.str _) (upd_same _ _ _) (vmcl_VD _) (okD_str (numS_ok k)) vmcl_lay ⟨_, rfl, ?_⟩
    rw [vmcl_num, if_pos (by decide)]
    have g1 : upd σ0 l (.list vmclV) (c'.L + 1) = _ := (upd_ne (neF hc1 hl)).trans hc1
    have g2 : upd σ0 l (.list vmclV) (c'.L + 1 + 1) = _ := (upd_ne (neF hc2 hl)).trans hc2
    have kl : Keep [] σ (upd σ0 l (.list vmclV)) := Keep.updNew k0 hl _
    change EX _ _ _ _ (upd σ0 l (.list vmclV)) _
    generalize upd σ0 l (.list vmclV) = σl at g1 g2 kl
    refine EX_cons ?_
    refine EX_Return ?_
    refine EV_Tuple ?_
    refine EVs_cons rfl ?_
    refine EV_Sub (fun _ _ => rfl) ?_
    refine EV_local he rfl rfl rfl ?_
    refine EV_int ⟨_, 0, .str (numS k), rfl, rfl, rfl, ?_⟩
    refine EVs_cons rfl ?_
    refine EV_BinOp ?_
    refine EV_BinOp ?_
    refine EV_Sub (fun _ _ => rfl) ?_
    refine EV_local he rfl rfl rfl ?_
    refine EV_int ⟨_, 1, .int i, rfl, rfl, rfl, ?_⟩
    refine EV_cell he rfl rfl rfl g1 ?_
    refine OP_mul (IntMulOk.of_right hb) ?_
    refine EV_cell he rfl rfl rfl g2 ?_
    refine OP_add ?_
    refine EVs_nil ⟨by simp, ?_⟩
    exact h _ kl
  | bare b =>
    refine EX_cons ?_
    refine EX_If ?_
    refine TR_Compare rfl ?_
    refine EV_Sub (fun _ _ => rfl) ?_
    refine EV_local he rfl rfl rfl ?_
    refine EV_int ⟨_, 0, .str (bareS b), rfl, rfl, rfl, ?_⟩
    refine EV_List ?_
    refine EVs_str ?_
    refine EVs_str ?_
    refine EVs_str ?_
    refine EVs_str ?_
    refine EVs_nil ⟨by simp, fun l hl => ?_⟩
    refine OP_inD (ys := vmclV) (dys := vmclD) (by omega) (.str _) (upd_same _ _ _) (vmcl_VD _) (okD_str (bareS_ok b)) vmcl_lay ⟨_, rfl, ?_⟩
    rw [vmcl_bare, if_neg (by decide)]
    have g1 : upd σ0 l (.list vmclV) (c'.L + 1) = _ := (upd_ne (neF hc1 hl)).trans hc1
    have g2 : upd σ0 l (.list vmclV) (c'.L + 1 + 1) = _ := (upd_ne (neF hc2 hl)).trans hc2
    have kl : Keep [] σ (upd σ0 l (.list vmclV)) := Keep.updNew k0 hl _
    change EX _ _ _ _ (upd σ0 l (.list vmclV)) _
    generalize upd σ0 l (.list vmclV) = σl at g1 g2 kl
    refine EX_nil (EX_cons (EX_If (TR_Compare rfl (EV_Sub (fun _ _ => rfl) (EV_local he rfl rfl rfl (EV_int ⟨_, 0, .str (bareS b), rfl, rfl, rfl, EV_str (OP_eqs ⟨_, rfl, ?_⟩)⟩))))))
    rw [bareS_u, if_neg (by decide)]
    refine EX_nil (EX_cons (EX_If (TR_Compare rfl (EV_bcall (x := "len") he rfl rfl rfl rfl (by decide) rfl rfl rfl (EVs_cons rfl (EV_local he rfl rfl rfl (EVs_nil (OP_len_tuple (vs := [.str (bareS b)]) (by simp) (EV_int (OP_eq ⟨_, rfl, ?_⟩))))))))))
    rw [if_neg (by simp)]
    refine EX_nil ?_
    refine EX_cons ?_
    refine EX_Return ?_
    refine EV_local he rfl rfl rfl ?_
    exact h _ kl
theorem c_moved (n : Nat) : ∀ {c : Cx w (hd1.heap_39 w.params)} {ρ : Loc} {σ : St} {Q : V → St → Prop} {d : Nat} (hd : d + 1 = c.d) (hdd : 110 + n ≤ d) {tm pl : Int} (hb : Builtin.Int.intBits tm ≤ 64) {p : Pc} (hp : p.ok n)
   (h : ∀ σ', Keep [] σ σ' → Q (p.ren (mov tm pl)).toV σ'), CF prog c 444 [p.toV, .int tm, .int pl] ρ σ Q := by
  induction n with
  | zero =>
    intro c ρ σ Q d hd hdd tm pl hb p hp h
    exact c_moved0 0 (fun m hm => absurd hm (Nat.succ_ne_zero m)) hd hdd hb hp h
  | succ m ih =>
    intro c ρ σ Q d hd hdd tm pl hb p hp h
    exact c_moved0 (m + 1) (fun k hk => by obtain rfl : k = m := Nat.succ.inj hk; exact ih) hd hdd hb hp h
end
end RH
set_option Elab.async false
set_option maxRecDepth 100000
set_option maxHeartbeats 400000
set_option linter.all false
namespace RH
open PySem PySem.W PySem.Calls PyProof.Rows
section
variable {prog : Program} {w : World} {c : Cx w (hd1.heap_39 w.params)} {ρ : Loc} {σ : St} {Q : V → St → Prop}
/-- the renaming closure, and its code -/
structure ChI (σ : St) (fch ce T : Addr) (fo : Obj × Addr × Obj) (ks : List Int) : Prop where
  f : σ fch = some (.raw fo.1)
  cd : σ fo.2.1 = some (.raw fo.2.2)
  ce : σ ce = some (.cell (some (.loc T)))
  T : σ T = some (.dictI (numb ks))
theorem ChI.keep {σ σ' : St} {fch ce T : Addr} {fo : Obj × Addr × Obj} {ks : List Int} {S : List Addr} (h : ChI σ fch ce T fo ks) (k : Keep S σ σ') (n : fch ∉ S ∧ fo.2.1 ∉ S ∧ ce ∉ S ∧ T ∉ S) : ChI σ' fch ce T fo ks := ⟨k _ _ h.f n.1, k _ _ h.cd n.2.1, k _ _ h.ce n.2.2.1, k _ _ h.T n.2.2.2⟩
def ChOk (prog : Program) {w : World} {K : Frag} (fch ce T : Addr) (fo : Obj × Addr × Obj) (d0 : Nat) : Prop :=
  ∀ {c : Cx w K} {ρ : Loc} {σ : St} {Q : V → St → Prop} {ks : List Int} {i : Int}, d0 ≤ c.d → ks.length ≤ 900000 → ChI σ fch ce T fo ks →
    (∀ σ', Keep [T] σ σ' → ChI σ' fch ce T fo (touch ks i) → Q (.tup [.str "v", .int (ix (touch ks i) i : Nat)]) σ') → CF prog c fch [.int i] ρ σ Q
theorem ChI.keepL {σ σ' : St} {fch ce T : Addr} {fo : Obj × Addr × Obj} {ks : List Int} {S : List Addr} (h : ChI σ fch ce T fo ks) (k : Keep S σ σ') (n : ∀ a ∈ S, (∃ l, σ a = some (.list l)) ∨ σ a = none) : ChI σ' fch ce T fo ks := by
  refine h.keep k ⟨?_, ?_, ?_, ?_⟩
  · intro m
    rcases n _ m with ⟨l, e⟩ | e <;> rw [h.f] at e <;> cases e
  · intro m
    rcases n _ m with ⟨l, e⟩ | e <;> rw [h.cd] at e <;> cases e
  · intro m
    rcases n _ m with ⟨l, e⟩ | e <;> rw [h.ce] at e <;> cases e
  · intro m
    rcases n _ m with ⟨l, e⟩ | e <;> rw [h.T] at e <;> cases e
theorem Par.keep {σ σ' : St} {F D T : Addr} {fs : List V} {par : Option (Addr × List V)} {S : List Addr} (h : Par σ F D T fs par) (k : Keep S σ σ') (n : ∀ a ∈ S, a = T ∨ a = F ∨ a = D) : Par σ' F D T fs par := by
  cases h with
  | top => exact .top
  | sub h1 h2 h3 h4 h5 => exact .sub (k _ _ h1 fun m => (n _ m).elim h4 fun z => z.elim h3 h2) h2 h3 h4 h5
theorem seqOf_loc {σ : St} {a : Addr} {vs : List V} (h : σ a = some (.list vs)) : seqOf σ (.loc a) = some vs := by simp [seqOf, h]
theorem leafS_s' (b : Bool) : (leafS b == ("s" : Str)) = false := by cases b <;> decide
theorem leafS_s (b : Bool) : (leafS b != ("s" : Str)) = true := by cases b <;> decide
theorem c_rebuild {d : Nat} (hd : d + 1 = c.d) (hdd : 110 ≤ d) {fch ce T : Addr} {fo : Obj × Addr × Obj} (hch : ChOk prog (w := w) (K := hd1.heap_39 w.params) fch ce T fo 100) (hfo : ∃ fd, fo.1.data = .func fd) {ks : List Int} (hI : ChI σ fch ce T fo ks) {n : Nat} (hn : n ≤ 9) {p : Pc} (hp : p.isT n) (hz : ks.length + p.nums.length ≤ 900000)
   (h : ∀ σ', Keep [T] σ σ' → ChI σ' fch ce T fo (rnS p ks).2 → Q (rnS p ks).1.toV σ') : CF prog c 182 [p.toV, .loc fch, .bool false] ρ σ Q := by
  refine CF_K (names := ["term", "change", "again"]) (hl := rfl) (d := d) hd rfl rfl (all3 fun a b c => by kernel_rfl) rfl (by decide) (by decide) (by decide) rfl rfl rfl fun c' hd' he => ?_
  have hcall : ∀ {σ : St} {ks : List Int}, ChI σ fch ce T fo ks → Callable (hd1.heap_39 w.params) σ fch := fun h => by
    obtain ⟨fd, hfd⟩ := hfo
    obtain ⟨⟨oc, od, dd, sl⟩, cd, ob⟩ := fo
    simp only at hfd
    subst hfd
    exact .inr ⟨oc, od, fd, sl, h.f⟩
  refine EX_cons ?_
  refine EX_Name he rfl rfl ?_
  refine EV_local he rfl rfl rfl ?_
  cases p with
  | num k i => cases n <;> exact hp.elim
  | bare b => cases n <;> exact hp.elim
  | uni l r => cases n <;> exact hp.elim
  | var i =>
    refine EX_cons (EX_If (TR_Compare rfl (EV_Sub (fun _ _ => rfl) (EV_local he rfl rfl rfl (EV_int ⟨_, 0, .str "v", rfl, rfl, rfl, EV_str (OP_eqs ⟨_, rfl, ?_⟩)⟩)))))
    rw [if_pos (by decide)]
    refine EX_cons ?_
    refine EX_Name he rfl rfl ?_
    refine EV_call rfl rfl rfl ?_
    refine EV_local he rfl rfl rfl ⟨fch, rfl, ?_⟩
    refine EVs_cons rfl ?_
    refine EV_Sub (fun _ _ => rfl) ?_
    refine EV_local he rfl rfl rfl ?_
    refine EV_int ⟨_, 1, .int i, rfl, rfl, rfl, ?_⟩
    refine EVs_nil ⟨hcall hI, ?_⟩
    refine hch (by omega) (by omega) hI fun σ1 k1 hI1 => ?_
    refine EX_cons ?_
    refine EX_If ?_
    refine TR_not ?_
    refine TR_plain rfl ?_
    refine EV_local he rfl rfl rfl ?_
    refine OPb_bool ?_
    rw [if_pos (by decide)]
    refine EX_cons ?_
    refine EX_Return ?_
    refine EV_local he rfl rfl rfl ?_
    exact h σ1 k1 hI1
  | leaf b =>
    rw [show Pc.toV (.leaf b) = .tup [.str (leafS b), .int (leafI b)] from leafV_eq b]
    refine EX_cons (EX_If (TR_Compare rfl (EV_Sub (fun _ _ => rfl) (EV_local he rfl rfl rfl (EV_int ⟨_, 0, .str (leafS b), rfl, rfl, rfl, EV_str (OP_eqs ⟨_, rfl, ?_⟩)⟩)))))
    rw [leafS_v, if_neg (by decide)]
    refine EX_nil ?_
    refine EX_cons (EX_If (TR_Compare rfl (EV_Sub (fun _ _ => rfl) (EV_local he rfl rfl rfl (EV_int ⟨_, 0, .str (leafS b), rfl, rfl, rfl, EV_str (OP_nes ⟨_, rfl, ?_⟩)⟩)))))
    rw [leafS_s, if_pos (by decide)]
    refine EX_cons ?_
    refine EX_Return ?_
    refine EV_local he rfl rfl rfl ?_
    have r := h σ (Keep.refl _ _) hI
    rw [show (rnS (.leaf b) ks).1.toV = .tup [.str (leafS b), .int (leafI b)] from leafV_eq b] at r
    exact r
  | st k f as =>
    obtain ⟨m, rfl⟩ : ∃ m, n = m + 1 := by cases n with | zero => exact hp.elim | succ m => exact ⟨m, rfl⟩
    obtain ⟨rfl, hal, hat⟩ := hp
    refine EX_cons (EX_If (TR_Compare rfl (EV_Sub (fun _ _ => rfl) (EV_local he rfl rfl rfl (EV_int ⟨_, 0, .str "s", rfl, rfl, rfl, EV_str (OP_eqs ⟨_, rfl, ?_⟩)⟩)))))
    rw [if_neg (by decide)]
    refine EX_nil ?_
    refine EX_cons (EX_If (TR_Compare rfl (EV_Sub (fun _ _ => rfl) (EV_local he rfl rfl rfl (EV_int ⟨_, 0, .str "s", rfl, rfl, rfl, EV_str (OP_nes ⟨_, rfl, ?_⟩)⟩)))))
    rw [if_neg (by decide)]
    refine EX_nil ?_
    refine EX_cons ?_
    refine EX_Name he rfl rfl ?_
    refine EV_List ?_
    refine EVs_cons rfl ?_
    refine EV_Tuple ?_
    refine EVs_cons rfl ?_
    refine EV_local he rfl rfl rfl ?_
    refine EVs_cons rfl ?_
    refine EV_List ?_
    refine EVs_nil ⟨by simp, fun D hD => ?_⟩
    refine EVs_nil ⟨by simp, ?_⟩
    refine EVs_nil ⟨by simp, fun F hF => ?_⟩
    refine EX_cons ?_
    refine EX_Name he rfl rfl ?_
    refine EV_local he rfl rfl rfl ?_
    refine EX_cons ?_
    refine EX_While ?_
    have hDF : D ≠ F := neF (upd_same _ _ _) hF
    have k1 : Keep [] σ (upd (upd σ D (.list [])) F (.list [.tup [(Pc.st 0 f as).toV, .loc D]])) := (Keep.refl _ _).updNew hD _ |>.updNew hF _
    show WH prog c' ?wt ?wb ?we _ _ ?wQ
    refine (fun (key : ∀ (m : Nat) {rest pre : List Pc} {ks : List Int} {D : Addr} {dn fs : List V} {par : Option (Addr × List V)} {f : Int} {ρ : Loc} {σ : St}, (Pc.shapes rest).length < m → dn.length = pre.length → (pre ++ rest).length ≤ 3 → (∀ a ∈ rest, ∃ n, a.isT n) → fs.length + (Pc.shapes rest).length ≤ 900000 → ks.length + (Pc.numss rest).length ≤ 900000 →
        σ F = some (.list (fs ++ [.tup [(Pc.st 0 f (pre ++ rest)).toV, .loc D]])) → σ D = some (.list dn) → D ≠ F → ChI σ fch ce T fo ks → Par σ F D T fs par → Sub [("frames", .loc F), ("change", .loc fch), ("again", .bool false)] ρ →
        (∀ ρ' σ', Sub [("frames", .loc F), ("change", .loc fch), ("again", .bool false)] ρ' → Keep (T :: F :: D :: (par.map (·.1)).toList) σ σ' → ChI σ' fch ce T fo (rnSs rest ks).2 → σ' F = some (.list fs) →
          (match par with
            | none => lget ρ' "result" = some (.tup [.str "s", .int f, .tup (dn ++ Pc.toVs (rnSs rest ks).1)])
            | some (D', dn') => σ' D' = some (.list (dn' ++ [.tup [.str "s", .int f, .tup (dn ++ Pc.toVs (rnSs rest ks).1)]]))) → WH prog c' ?wt ?wb ?we ρ' σ' ?wQ) → WH prog c' ?wt ?wb ?we ρ σ ?wQ) => key _ (rest := as) (pre := []) (dn := []) (fs := []) (par := none) (f := f) (D := D) (ks := ks) (Nat.lt_succ_self _) rfl hal (fun a ha => ⟨_, hat a ha⟩) ?_ hz (upd_same _ _ _) ((upd_ne hDF).trans (upd_same _ _ _)) hDF (hI.keep k1 (by simp)) .top (.cons rfl (.cons rfl (.cons rfl .nil))) ?_) ?_
    · have := (Pc.len (p := Pc.st 0 f as) (n := m + 1) ⟨hal, fun a ha => (hat a ha).ok⟩).1
      have h4 : 4 ^ (m + 1) ≤ 4 ^ 9 := Nat.pow_le_pow_right (by decide) hn
      have h5 : (4 : Nat) ^ 9 ≤ 900000 := by decide
      simp only [Pc.shape, List.length_cons] at this
      simp only [List.length_nil]
      omega
    · intro ρ' σ' hs k2 hI2 hF2 hr
      refine WH.sub (ρ' := [("frames", .loc F), ("result", .tup [.str "s", .int f, .tup ([] ++ Pc.toVs (rnSs as ks).1)])]) (Sub.cons (hs _ _ rfl) (.cons hr .nil)) ?_
      refine WH_step ?_
      refine TR_plain rfl ?_
      refine EV_local he rfl rfl rfl ?_
      refine OPb_list hF2 (by simp) ?_
      rw [if_neg (by simp)]
      refine EX_cons ?_
      refine EX_Return ?_
      refine EV_local he rfl rfl rfl ?_
      have hFn : σ F = none := ((Keep.refl [] σ).updNew hD _).none hF (by simp)
      have k3 : Keep (F :: D :: [T]) σ σ' := (k1.wide (by simp)).trans (k2.wide (by simp))
      exact h _ ((k3.drop hFn).drop hD) hI2
    · intro m
      induction m with
      | zero => intro rest pre ks D dn fs par f ρ σ hm; omega
      | succ m ih =>
      intro rest pre ks D dn fs par f ρ σ hm hdn h3 hT hz2 hks hF hD hDF hI hpar hs kk
      have hdn3 : dn.length ≤ 3 := by rw [hdn]; simp at h3; omega
      have hlen : (Pc.toVs (pre ++ rest)).length = pre.length + rest.length := by rw [Pc.toVs_map]; simp
      refine WH.sub (ρ' := [("frames", .loc F), ("change", .loc fch), ("again", .bool false)]) hs ?_
      refine WH_step ?_
      refine TR_plain rfl ?_
      refine EV_local he rfl rfl rfl ?_
      refine OPb_list hF (by simp; omega) ?_
      rw [if_pos (by simp)]
      refine EX_cons ?_
      refine EX_Tuple2 he rfl rfl rfl rfl ?_
      refine EV_Sub (fun _ _ => rfl) ?_
      refine EV_local he rfl rfl rfl ?_
      refine EV_UnaryOp ?_
      refine EV_int ?_
      refine OP_neg ⟨_, -1, _, seqOf_loc hF, rfl, vidx_last _ _ (by omega), ?_⟩
      refine ⟨_, _, rfl, ?_⟩
      refine EX_cons ?_
      refine EX_Name he rfl rfl ?_
      refine EV_Sub (fun _ _ => rfl) ?_
      refine EV_local he rfl rfl rfl ?_
      refine EV_int ⟨_, 2, .tup (Pc.toVs (pre ++ rest)), rfl, rfl, rfl, ?_⟩
      refine EX_cons ?_
      refine EX_If ?_
      refine TR_Compare rfl ?_
      refine EV_bcall (x := "len") he rfl rfl rfl rfl (by decide) rfl rfl rfl ?_
      refine EVs_cons rfl ?_
      refine EV_local he rfl rfl rfl ?_
      refine EVs_nil ?_
      refine OP_len_list hD (by omega) ?_
      refine EV_bcall (x := "len") he rfl rfl rfl rfl (by decide) rfl rfl rfl ?_
      refine EVs_cons rfl ?_
      refine EV_local he rfl rfl rfl ?_
      refine EVs_nil ?_
      refine OP_len_tuple (by rw [hlen]; simp at h3; omega) ?_
      refine OP_eq ⟨_, rfl, ?_⟩
      cases rest with
      | nil =>
        rw [if_pos (by rw [hlen, hdn]; simp)]
        refine EX_cons ?_
        refine EX_Expr rfl rfl ?_
        refine EV_pop rfl rfl ?_
        refine EV_local he rfl rfl rfl ⟨F, fs, _, rfl, hF, by omega, ?_⟩
        refine EX_cons ?_
        refine EX_Name he rfl rfl ?_
        refine EV_Tuple ?_
        refine EVs_str ?_
        refine EVs_cons rfl ?_
        refine EV_Sub (fun _ _ => rfl) ?_
        refine EV_local he rfl rfl rfl ?_
        refine EV_int ⟨_, 1, .int f, rfl, rfl, rfl, ?_⟩
        refine EVs_cons rfl ?_
        refine EV_tcall (x := "tuple") he rfl rfl rfl rfl (by decide) rfl rfl rfl ?_
        refine EVs_cons rfl ?_
        refine EV_local he rfl rfl rfl ?_
        refine EVs_nil ?_
        refine OP_tuple_list ((upd_ne hDF).trans hD) (by omega) ?_
        refine EVs_nil ⟨by simp, ?_⟩
        refine EX_cons ?_
        refine EX_If ?_
        refine TR_plain rfl ?_
        refine EV_local he rfl rfl rfl ?_
        refine OPb_list (upd_same _ _ _) (by omega) ?_
        cases hpar with
        | top =>
          rw [if_neg (by simp)]
          refine EX_nil ?_
          refine EX_nil ?_
          refine EX_nil ?_
          refine kk _ _ (.cons rfl (.cons rfl (.cons rfl .nil))) ((Keep.refl _ _).updIn (by simp) _) ?_ (upd_same _ _ _) ?_
          · exact hI.keepL (S := [F]) ((Keep.refl _ _).updIn (.head _) _) fun a ha => by
              simp at ha; subst ha; exact .inl ⟨_, hF⟩
          · show lget (lset _ _ _) _ = _
            rw [lget_lset, if_pos rfl]
            simp [rnSs, Pc.toVs]
        | @sub D' dn' fs' w' g1 g2 g3 g4 g5 =>
          rw [if_pos (by simp)]
          refine EX_cons ?_
          refine EX_Expr rfl rfl ?_
          refine EV_append rfl rfl rfl rfl rfl ?_
          refine EV_Sub (fun _ _ => rfl) ?_
          refine EV_Sub (fun _ _ => rfl) ?_
          refine EV_local he rfl rfl rfl ?_
          refine EV_UnaryOp ?_
          refine EV_int ?_
          refine OP_neg ⟨_, -1, _, seqOf_loc (upd_same _ _ _), rfl, vidx_last _ _ (by simp at hz2; omega), ?_⟩
          refine EV_int ⟨_, 1, .loc D', rfl, rfl, rfl, ?_⟩
          have g1' : ∀ o, upd σ F o D' = some (.list dn') := fun o => (upd_ne g3).trans g1
          refine ⟨D', rfl, ⟨dn', g1' _⟩, ?_⟩
          refine EV_local he rfl rfl rfl ⟨dn', g1' _, by omega, ?_⟩
          refine EX_nil ?_
          refine EX_nil ?_
          refine EX_nil ?_
          refine kk _ _ (.cons rfl (.cons rfl (.cons rfl .nil))) (((Keep.refl _ _).updIn (by simp) _).updIn (by simp) _) ?_ ((upd_ne (Ne.symm g3)).trans (upd_same _ _ _)) ?_
          · refine hI.keepL (S := [F, D']) (((Keep.refl _ _).updIn (by simp) _).updIn (by simp) _) fun a ha => ?_
            simp at ha
            rcases ha with rfl | rfl
            · exact .inl ⟨_, hF⟩
            · exact .inl ⟨_, g1⟩
          · show upd _ _ _ _ = _
            rw [upd_same]
            simp [rnSs, Pc.toVs]
      | cons a r =>
        rw [if_neg (by rw [hlen, hdn]; simp; omega)]
        have hv : vidx (Pc.toVs (pre ++ a :: r)) (dn.length : Nat) = some a.toV := by
          rw [Pc.toVs_map, List.map_append, List.map_cons, hdn, ← List.length_map (f := Pc.toV)]
          exact vidx_mid _ _ _ (by simp at h3 ⊢; omega)
        have heq : dn ++ Pc.toVs (rnSs (a :: r) ks).1 = (dn ++ [(rnS a ks).1.toV]) ++ Pc.toVs (rnSs r (rnS a ks).2).1 := by simp [rnSs, Pc.toVs]
        have hap : pre ++ a :: r = (pre ++ [a]) ++ r := by simp
        have hDT : D ≠ T := fun z => by subst z; have := hI.T; rw [hD] at this; cases this
        have hsz : (Pc.shapes (a :: r)).length = a.shape.length + (Pc.shapes r).length := by simp [Pc.shapes]
        have hsn : (Pc.numss (a :: r)).length = a.nums.length + (Pc.numss r).length := by simp [Pc.numss]
        have hk1 := rnS_keys a ks
        have hsp : 1 ≤ a.shape.length := by
          cases a <;> simp [Pc.shape]
        have next : ∀ ρ1 σ1, Keep [T, F, D] σ σ1 → σ1 F = some (.list (fs ++ [.tup [(Pc.st 0 f (pre ++ a :: r)).toV, .loc D]])) → σ1 D = some (.list (dn ++ [(rnS a ks).1.toV])) → ChI σ1 fch ce T fo (rnS a ks).2 →
            Sub [("frames", .loc F), ("change", .loc fch), ("again", .bool false)] ρ1 → WH prog c' ?wt ?wb ?we ρ1 σ1 ?wQ := by
          intro ρ1 σ1 k1 f1 d1 c1 s1
          rw [hap] at f1
          refine ih (rest := r) (pre := pre ++ [a]) (ks := (rnS a ks).2) (dn := dn ++ [(rnS a ks).1.toV]) (fs := fs) (par := par) (f := f) (by omega) (by simp [hdn]) (by rw [← hap]; exact h3) (fun b hb => hT b (.tail _ hb)) (by omega) (by omega) f1 d1 hDF c1 (hpar.keep k1 (by simp)) s1 ?_
          intro ρ' σ' hs' k' hI' hF' hr
          rw [← heq] at hr
          exact kk ρ' σ' hs' ((k1.wide (by simp)).trans k') hI' hF' hr
        refine EX_cons ?_
        refine EX_Name he rfl rfl ?_
        refine EV_Sub (fun _ _ => rfl) ?_
        refine EV_local he rfl rfl rfl ?_
        refine EV_bcall (x := "len") he rfl rfl rfl rfl (by decide) rfl rfl rfl ?_
        refine EVs_cons rfl ?_
        refine EV_local he rfl rfl rfl ?_
        refine EVs_nil ?_
        refine OP_len_list hD (by omega) ?_
        refine ⟨_, (dn.length : Nat), a.toV, rfl, rfl, hv, ?_⟩
        cases a with
        | num k i => obtain ⟨n, h⟩ := hT _ (.head _); cases n <;> exact h.elim
        | bare b => obtain ⟨n, h⟩ := hT _ (.head _); cases n <;> exact h.elim
        | uni l r => obtain ⟨n, h⟩ := hT _ (.head _); cases n <;> exact h.elim
        | var i =>
          refine EX_cons ?_
          refine EX_If ?_
          refine TR_Compare rfl ?_
          refine EV_Sub (fun _ _ => rfl) ?_
          refine EV_local he rfl rfl rfl ?_
          refine EV_int ⟨_, 0, .str "v", rfl, rfl, rfl, ?_⟩
          refine EV_str (OP_eqs ⟨_, rfl, ?_⟩)
          rw [if_pos (by decide)]
          refine EX_cons ?_
          refine EX_Name he rfl rfl ?_
          refine EV_call rfl rfl rfl ?_
          refine EV_local he rfl rfl rfl ⟨fch, rfl, ?_⟩
          refine EVs_cons rfl ?_
          refine EV_Sub (fun _ _ => rfl) ?_
          refine EV_local he rfl rfl rfl ?_
          refine EV_int ⟨_, 1, .int i, rfl, rfl, rfl, ?_⟩
          refine EVs_nil ⟨hcall hI, ?_⟩
          refine hch (by omega) (by omega) hI fun σ1 k1 hI1 => ?_
          refine EX_cons ?_
          refine EX_If ?_
          refine TR_and ?_
          refine TR_plain rfl ?_
          refine EV_local he rfl rfl rfl ?_
          refine OPb_bool ?_
          rw [if_neg (by decide)]
          rw [if_neg (by decide)]
          have hD1 : σ1 D = some (.list dn) := k1 _ _ hD (by simpa using hDT)
          refine EX_cons ?_
          refine EX_Expr rfl rfl ?_
          refine EV_append rfl rfl rfl rfl rfl ?_
          refine EV_local he rfl rfl rfl ⟨D, rfl, ⟨dn, hD1⟩, ?_⟩
          refine EV_local he rfl rfl rfl ⟨dn, hD1, by omega, ?_⟩
          refine EX_nil ?_
          refine EX_nil ?_
          refine EX_nil ?_
          refine EX_nil ?_
          refine next _ _ ((k1.wide (by simp)).updIn (by simp) _) ?_ (upd_same _ _ _) (hI1.keepL (S := [D]) ((Keep.refl _ _).updIn (by simp) _) ?_) ?_
          · refine (upd_ne (Ne.symm hDF)).trans (k1 _ _ hF ?_)
            simp
            rintro rfl
            have := hI.T; rw [hF] at this; cases this
          · intro a ha
            simp at ha; subst ha; exact .inl ⟨_, hD1⟩
          · exact .cons rfl (.cons rfl (.cons rfl .nil))
        | leaf b =>
          rw [show Pc.toV (.leaf b) = .tup [.str (leafS b), .int (leafI b)] from leafV_eq b]
          refine EX_cons ?_
          refine EX_If ?_
          refine TR_Compare rfl ?_
          refine EV_Sub (fun _ _ => rfl) ?_
          refine EV_local he rfl rfl rfl ?_
          refine EV_int ⟨_, 0, .str (leafS b), rfl, rfl, rfl, ?_⟩
          refine EV_str (OP_eqs ⟨_, rfl, ?_⟩)
          rw [leafS_v, if_neg (by decide)]
          refine EX_cons ?_
          refine EX_If ?_
          refine TR_Compare rfl ?_
          refine EV_Sub (fun _ _ => rfl) ?_
          refine EV_local he rfl rfl rfl ?_
          refine EV_int ⟨_, 0, .str (leafS b), rfl, rfl, rfl, ?_⟩
          refine EV_str (OP_eqs ⟨_, rfl, ?_⟩)
          rw [leafS_s', if_neg (by decide)]
          refine EX_cons ?_
          refine EX_Expr rfl rfl ?_
          refine EV_append rfl rfl rfl rfl rfl ?_
          refine EV_local he rfl rfl rfl ⟨D, rfl, ⟨dn, hD⟩, ?_⟩
          refine EV_local he rfl rfl rfl ⟨dn, hD, by omega, ?_⟩
          refine EX_nil ?_
          refine EX_nil ?_
          refine EX_nil ?_
          refine EX_nil ?_
          refine next _ _ ((Keep.refl _ _).updIn (by simp) _) ?_ ?_ (hI.keepL (S := [D]) ((Keep.refl _ _).updIn (by simp) _) ?_) ?_
          · exact (upd_ne (Ne.symm hDF)).trans hF
          · refine (upd_same _ _ _).trans ?_
            rw [show (rnS (.leaf b) ks).1.toV = .tup [.str (leafS b), .int (leafI b)] from leafV_eq b]
          · intro a ha
            simp at ha; subst ha; exact .inl ⟨_, hD⟩
          · exact .cons rfl (.cons rfl (.cons rfl .nil))
        | st k f' as' =>
          obtain ⟨n, h⟩ := hT _ (.head _)
          obtain ⟨n, rfl⟩ : ∃ m, n = m + 1 := by cases n with | zero => exact h.elim | succ m => exact ⟨m, rfl⟩
          obtain ⟨rfl, hal', hat'⟩ := h
          refine EX_cons ?_
          refine EX_If ?_
          refine TR_Compare rfl ?_
          refine EV_Sub (fun _ _ => rfl) ?_
          refine EV_local he rfl rfl rfl ?_
          refine EV_int ⟨_, 0, .str "s", rfl, rfl, rfl, ?_⟩
          refine EV_str (OP_eqs ⟨_, rfl, ?_⟩)
          rw [if_neg (by decide)]
          refine EX_cons ?_
          refine EX_If ?_
          refine TR_Compare rfl ?_
          refine EV_Sub (fun _ _ => rfl) ?_
          refine EV_local he rfl rfl rfl ?_
          refine EV_int ⟨_, 0, .str "s", rfl, rfl, rfl, ?_⟩
          refine EV_str (OP_eqs ⟨_, rfl, ?_⟩)
          rw [if_pos (by decide)]
          refine EX_cons ?_
          refine EX_Expr rfl rfl ?_
          refine EV_append rfl rfl rfl rfl rfl ?_
          refine EV_local he rfl rfl rfl ⟨F, rfl, ⟨_, hF⟩, ?_⟩
          refine EV_Tuple ?_
          refine EVs_cons rfl ?_
          refine EV_local he rfl rfl rfl ?_
          refine EVs_cons rfl ?_
          refine EV_List ?_
          refine EVs_nil ⟨by simp, fun D2 hD2 => ?_⟩
          refine EVs_nil ⟨by simp, ?_⟩
          have h2F : F ≠ D2 := neF hF hD2
          have h2D : D ≠ D2 := neF hD hD2
          refine ⟨_, (upd_ne h2F).trans hF, by simp; omega, ?_⟩
          refine EX_nil ?_
          refine EX_nil ?_
          refine EX_nil ?_
          refine EX_nil ?_
          have kS : Keep [F] σ (upd (upd σ D2 (.list [])) F (.list (fs ++ [.tup [(Pc.st 0 f (pre ++ .st 0 f' as' :: r)).toV, .loc D]] ++ [.tup [(Pc.st 0 f' as').toV, .loc D2]]))) := ((Keep.refl _ _).updNew hD2 _).updIn (.head _) _
          have e1 : upd (upd σ D2 (.list [])) F (.list (fs ++ [.tup [(Pc.st 0 f (pre ++ .st 0 f' as' :: r)).toV, .loc D]] ++ [.tup [(Pc.st 0 f' as').toV, .loc D2]])) F = some _ := upd_same _ _ _
          have e2 : upd (upd σ D2 (.list [])) F (.list (fs ++ [.tup [(Pc.st 0 f (pre ++ .st 0 f' as' :: r)).toV, .loc D]] ++ [.tup [(Pc.st 0 f' as').toV, .loc D2]])) D2 = some (.list []) := (upd_ne (Ne.symm h2F)).trans (upd_same _ _ _)
          have e3 := kS _ _ hD (by simpa using hDF)
          have hsz' : (Pc.st 0 f' as').shape.length = (Pc.shapes as').length + 1 := by simp [Pc.shape]
          have hsn' : (Pc.st 0 f' as').nums.length = (Pc.numss as').length := by simp [Pc.nums]
          refine ih (rest := as') (pre := []) (ks := ks) (D := D2) (dn := []) (fs := fs ++ [.tup [(Pc.st 0 f (pre ++ .st 0 f' as' :: r)).toV, .loc D]]) (par := some (D, dn)) (f := f') (by omega) rfl hal' (fun b hb => ⟨_, hat' b hb⟩) (by simp; omega) (by omega) e1 e2 (Ne.symm h2F) (hI.keepL kS ?_) (.sub e3 h2D hDF hDT (by omega)) ?_ ?_
          · intro a ha
            simp at ha; subst ha; exact .inl ⟨_, hF⟩
          · exact .cons rfl (.cons rfl (.cons rfl .nil))
          · intro ρ' σ' hs' k' hI' hF' hr
            have kA : Keep (D2 :: [T, F, D]) σ σ' := (kS.wide (by simp)).trans (k'.wide (by simp))
            exact next ρ' σ' (kA.drop hD2) hF' hr hI' hs'
end
end RH
set_option Elab.async false
set_option maxRecDepth 100000
set_option maxHeartbeats 400000
set_option linter.all false
namespace RH
open PySem PySem.W PySem.Calls PyProof.Rows
section
variable {prog : Program} {w : World} {c : Cx w (hd1.heap_39 w.params)} {ρ : Loc} {σ : St} {Q : V → St → Prop}
theorem headCode {h : Heap} (X : (hd1.heap_39 w.params).In h) : CodeHd h 189 185 := codeHd_of_K X (by kernel_rfl)
def tabQ : Str := "renumber.<locals>.change"
def tabP : Pos := { line := 146, col := 4, endLine := 149, endCol := 32 }
theorem TabIs.keep {σ σ' : St} {P : Addr} {pos : Pos} {q : Str} {S : List Addr} (h : TabIs P pos q σ) (k : Keep S σ σ') (n : ∀ a ∈ S, ∀ o, σ a ≠ some (.raw o)) : TabIs P pos q σ' := by
  cases h with
  | new h => exact .new (k _ _ h fun m => n _ m _ h)
  | old h1 h2 h3 h4 h5 => exact .old (k _ _ h1 fun m => n _ m _ h1) (k _ _ h2 fun m => n _ m _ h2) h3 h4 h5
theorem TabIs.raw {σ : St} {P : Addr} {pos : Pos} {q : Str} (h : TabIs P pos q σ) : ∃ o, σ P = some (.raw o) := by
  cases h with
  | new h => exact ⟨_, h⟩
  | old h1 h2 h3 h4 h5 => exact ⟨_, h1⟩
theorem ChI.new {σ : St} {fch ce T : Addr} {fo : Obj × Addr × Obj} {ks ks' : List Int} (h : ChI σ fch ce T fo ks) : ChI (upd σ T (.dictI (numb ks'))) fch ce T fo ks' where
  f := (upd_ne fun z => by have := h.T; rw [← z, h.f] at this; cases this).trans h.f
  cd := (upd_ne fun z => by have := h.T; rw [← z, h.cd] at this; cases this).trans h.cd
  ce := (upd_ne fun z => by have := h.T; rw [← z, h.ce] at this; cases this).trans h.ce
  T := upd_same _ _ _
theorem numb_len' {κ : Type} (l : List κ) : (numb l).length = l.length := numb_length l
theorem c_renumber {d : Nat} (hd : d + 1 = c.d) (hdd : 115 ≤ d) {T : Addr} {ks : List Int} (hT : σ T = some (.dictI (numb ks))) (hP : TabIs 185 tabP tabQ σ) {n : Nat} (hn : n ≤ 9) {p : Pc} (hp : p.isT n) (hz : ks.length + p.nums.length ≤ 900000)
   (h : ∀ σ', Keep [T, 185] σ σ' → σ' T = some (.dictI (numb (rnS p ks).2)) → TabIs 185 tabP tabQ σ' → Q (.tup [(rnS p ks).1.toV, .loc T]) σ') : CF prog c 190 [p.toV, .loc T] ρ σ Q := by
  obtain ⟨e, rfl⟩ : ∃ e, d = e + 1 := ⟨d - 1, by omega⟩
  refine CF_KC (names := ["term", "table"]) (hl := rfl) (d := e + 1) hd rfl rfl (all2 fun a b S => by kernel_rfl) rfl (by decide) rfl rfl rfl fun c' hd' he hfr => ?_
  generalize hσ : cellS _ σ _ = σ0
  obtain ⟨k0, hc1⟩ : Keep [] σ σ0 ∧ σ0 (c'.L + 1) = some (.cell none) := by
    rw [← hσ]
    exact cells1 hfr
  refine EX.sub (ρ' := [("term", p.toV), ("table", .loc T)]) (Sub.cons rfl (.cons rfl .nil)) ?_
  refine EX_cons ?_
  refine EX_NameC he rfl rfl rfl ?_
  refine EV_IfExp ?_
  refine TR_Compare rfl ?_
  refine EV_local he rfl rfl rfl ?_
  refine EV_none ?_
  refine OP_isNone (by simp) ⟨_, rfl, ?_⟩
  rw [if_neg (by decide)]
  refine EV_local he rfl rfl rfl ⟨_, hc1, ?_⟩
  have hLn : σ (c'.L + 1) = none := hfr _ (Nat.le_succ _)
  have hce : upd σ0 (c'.L + 1) (.cell (some (.loc T))) (c'.L + 1) = some (.cell (some (.loc T))) := upd_same _ _ _
  have k1 : Keep [] σ (upd σ0 (c'.L + 1) (.cell (some (.loc T)))) := ((k0.wide (by simp)).updIn (S := [c'.L + 1]) (.head _) _).drop hLn
  generalize upd σ0 (c'.L + 1) (.cell (some (.loc T))) = σ1 at hce k1
  have hP1 := hP.keep k1 (by simp)
  have hT1 := k1 _ _ hT (by simp)
  refine EX_cons ?_
  refine EX_def he rfl rfl rfl rfl rfl rfl (headCode c'.X) rfl (qual := tabQ) hP1 ?_
  intro f cd ctv doc pm σ2 hfc hfP hcP hf hcd hfo hP2 hkp
  obtain ⟨oc, vs, t, hcd1, hcd2, hcd3⟩ := hcd
  have k2 : Keep [185] σ1 σ2 := fun b o e n => by
    have hbf : b ≠ f := neF e hf
    rw [((hkp b (by simpa using n) hbf).1 (by rw [e]; simp)), e]
  have hT185 : T ≠ 185 := fun z => by
    obtain ⟨o, ho⟩ := hP1.raw
    subst z; rw [hT1] at ho; cases ho
  have hL185 : c'.L + 1 ≠ 185 := fun z => by
    obtain ⟨o, ho⟩ := hP1.raw
    rw [← z, hce] at ho; cases ho
  have hT2 := k2 _ _ hT1 (by simpa using hT185)
  have hce2 := k2 _ _ hce (by simpa using hL185)
  refine EX_cons ?_
  refine EX_Return ?_
  refine EV_Tuple ?_
  refine EVs_cons rfl ?_
  refine EV_fcall (f := 182) he rfl rfl rfl rfl rfl rfl rfl ?_
  refine EVs_cons rfl ?_
  refine EV_local he rfl rfl rfl ?_
  refine EVs_cons rfl ?_
  refine EV_local he rfl rfl rfl ?_
  refine EVs_cons rfl ?_
  refine EV_bool ?_
  refine EVs_nil ?_
  refine c_rebuild (d := e) (T := T) (ce := c'.L + 1) (fo := (_, cd, oc)) (n := n) hd'.symm (by omega) ?_ ⟨_, rfl⟩ ⟨hfo, hcd1, hce2, hT2⟩ hn hp hz fun σ3 k3 hI3 => ?_
  · intro c ρ σ Q ks i hdc hks hI hQ
    refine CF_fn (names := ["k"]) (d := c.d - 1) (by omega) (fun s S => ⟨⟨_, (S.obj _ _ hI.f).2.2.1, rfl⟩, ⟨cd, oc, vs, t, rfl, (S.obj _ _ hI.cd).2.2.1, hcd2, hcd3⟩⟩) (fun s us S hv => BindsTo.of_eq ?_) rfl (by decide) (by decide) (by decide) rfl rfl rfl fun c' hd' he => ?_
    · match us, hv with
      | [u], _ => kernel_rfl
    refine EX_cons ?_
    refine EX_If ?_
    refine TR_Compare rfl ?_
    refine EV_local he rfl rfl rfl ?_
    refine EV_free he rfl rfl rfl rfl hI.ce ?_
    refine OP_notIn_dictI hI.T ⟨_, rfl, ?_⟩
    rw [kget_numb]
    by_cases q : i ∈ ks
    · have e : touch ks i = ks := if_pos q
      rw [if_pos q, if_neg (by simp)]
      refine EX_nil ?_
      refine EX_cons ?_
      refine EX_Return ?_
      refine EV_Tuple ?_
      refine EVs_str ?_
      refine EVs_cons rfl ?_
      refine EV_SubI (fun _ _ => rfl) ?_
      refine EV_free he rfl rfl rfl rfl hI.ce ?_
      refine EV_local he rfl rfl rfl ?_
      refine ⟨T, _, i, _, rfl, hI.T, rfl, (kget_numb ks i).trans (if_pos q), ?_⟩
      refine EVs_nil ⟨by simp, ?_⟩
      have r := hQ σ (Keep.refl _ _) (by rw [e]; exact hI)
      rw [e] at r
      exact r
    · have e : touch ks i = ks ++ [i] := if_neg q
      rw [if_neg q, if_pos (by simp)]
      refine EX_cons ?_
      refine EX_Set rfl ?_
      refine EV_bcall (x := "len") he rfl rfl rfl rfl (by decide) rfl rfl rfl ?_
      refine EVs_cons rfl ?_
      refine EV_free he rfl rfl rfl rfl hI.ce ?_
      refine EVs_nil ?_
      refine OP_len_dictI hI.T (by rw [numb_length]; omega) ?_
      refine EV_free he rfl rfl rfl rfl hI.ce ?_
      refine EV_local he rfl rfl rfl ?_
      refine ⟨T, _, .i hI.T (by rw [numb_length]; omega), ?_⟩
      rw [numb_length, kset_numb q, ← e]
      have kk : Keep [T] σ (upd σ T (.dictI (numb (touch ks i)))) := (Keep.refl _ _).updIn (.head _) _
      have hI2 := hI.new (ks' := touch ks i)
      refine EX_nil ?_
      refine EX_cons ?_
      refine EX_Return ?_
      refine EV_Tuple ?_
      refine EVs_str ?_
      refine EVs_cons rfl ?_
      refine EV_SubI (fun _ _ => rfl) ?_
      refine EV_free he rfl rfl rfl rfl hI2.ce ?_
      refine EV_local he rfl rfl rfl ?_
      refine ⟨T, _, i, _, rfl, hI2.T, rfl, (kget_numb _ i).trans (if_pos (touch_mem _ _)), ?_⟩
      refine EVs_nil ⟨by simp, ?_⟩
      exact hQ _ kk hI2
  · refine EVs_cons rfl ?_
    refine EV_cell he rfl rfl rfl hI3.ce ?_
    refine EVs_nil ⟨by simp, ?_⟩
    refine h σ3 (((k1.wide (by simp)).trans (k2.wide (by simp))).trans (k3.wide (by simp))) hI3.T (hP2.keep k3 ?_)
    intro a ha o ho
    simp at ha
    subst ha
    rw [hT2] at ho; cases ho
end
end RH
set_option Elab.async false
set_option maxRecDepth 100000
set_option maxHeartbeats 400000
set_option linter.all false
namespace RH
open PySem PySem.W PySem.Calls PyProof.Rows
section
variable {prog : Program} {w : World} {c : Cx w (hd1.heap_39 w.params)} {ρ : Loc} {σ : St} {Q : V → St → Prop}
theorem ne185 {T : Addr} {ks : List (Int × V)} {pos : Pos} {q : Str} {σ : St} (hT : σ T = some (.dictI ks)) (hP : TabIs 185 pos q σ) : T ≠ 185 := fun z => by
  obtain ⟨o, ho⟩ := hP.raw
  subst z; rw [hT] at ho; cases ho
theorem c_renumber_all {d : Nat} (hd : d + 1 = c.d) (hdd : 116 ≤ d) {T : Addr} {ks : List Int} (hT : σ T = some (.dictI (numb ks))) (hP : TabIs 185 tabP tabQ σ) {n : Nat} (hn : n ≤ 9) {l : List Pc} (hp : ∀ p ∈ l, p.isT n) (hl : l.length ≤ 1000) (hz : ks.length + (Pc.numss l).length ≤ 900000)
   (h : ∀ σ', Keep [T, 185] σ σ' → σ' T = some (.dictI (numb (rnSs l ks).2)) → TabIs 185 tabP tabQ σ' → Q (.tup [.tup (Pc.toVs (rnSs l ks).1), .loc T]) σ') : CF prog c 401 [.tup (Pc.toVs l), .loc T] ρ σ Q := by
  obtain ⟨e, rfl⟩ : ∃ e, d = e + 1 := ⟨d - 1, by omega⟩
  refine CF_K (names := ["terms", "table"]) (hl := rfl) (d := e + 1) hd rfl rfl (all2 fun a b => by kernel_rfl) rfl (by decide) (by decide) (by decide) rfl rfl rfl fun c' hd' he => ?_
  refine EX_cons ?_
  refine EX_Name he rfl rfl ?_
  refine EV_List ?_
  refine EVs_nil ⟨by simp, fun D hD => ?_⟩
  refine EX_cons ?_
  refine EX_For he rfl (fun _ => rfl) ?_
  refine EV_local he rfl rfl rfl ⟨_, _, .tuple, ?_⟩
  have hDT : T ≠ D := neF hT hD
  have k1 : Keep [D] σ (upd σ D (.list [])) := (Keep.refl _ _).updIn (.head _) _
  have hD1 : upd σ D (.list []) D = some (.list []) := upd_same _ _ _
  have hT1 : upd σ D (.list []) T = _ := (upd_ne hDT).trans hT
  have hP1 : TabIs 185 tabP tabQ (upd σ D (.list [])) := hP.keep ((Keep.refl [] _).updNew hD _) (by simp)
  generalize upd σ D (.list []) = σ1 at k1 hD1 hT1 hP1
  refine FB_run (fun vs ρ σ' => Sub [("table", .loc T), ("done", .loc D)] ρ ∧ ∃ (r : List Pc) (ls : List Pc) (ks' : List Int), vs = Pc.toVs r ∧ (∀ p ∈ r, p.isT n) ∧ ks'.length + (Pc.numss r).length ≤ 900000 ∧ ls.length + r.length = l.length ∧
      (ls ++ (rnSs r ks').1, (rnSs r ks').2) = rnSs l ks ∧ Keep [D, T, 185] σ σ' ∧ σ' D = some (.list (Pc.toVs ls)) ∧ σ' T = some (.dictI (numb ks')) ∧ TabIs 185 tabP tabQ σ')
    (fun ρ σ' => Sub [("table", .loc T), ("done", .loc D)] ρ ∧ Keep [D, T, 185] σ σ' ∧ σ' D = some (.list (Pc.toVs (rnSs l ks).1)) ∧ σ' T = some (.dictI (numb (rnSs l ks).2)) ∧ TabIs 185 tabP tabQ σ') ?_ ?_ ?_
    ⟨.cons rfl (.cons rfl .nil), l, [], ks, rfl, hp, hz, by simp, rfl, k1.wide (by simp), hD1, hT1, hP1⟩
  · rintro v vs ρ2 σ2 ⟨hs, r, ls, ks', hv, hr, hz', hll, he', k2, hD2, hT2, hP2⟩
    cases r with
    | nil => cases hv
    | cons a r =>
    cases hv
    refine EX.sub (ρ' := lset [("table", .loc T), ("done", .loc D)] "term" a.toV) (Sub.both hs) ?_
    have hsn : (Pc.numss (a :: r)).length = a.nums.length + (Pc.numss r).length := by simp [Pc.numss]
    have hk1 := rnS_keys a ks'
    have hn185 := ne185 hT2 hP2
    refine EX_cons ?_
    refine EX_Tuple2 he rfl rfl rfl rfl ?_
    refine EV_fcall (f := 190) he rfl rfl rfl rfl rfl rfl rfl ?_
    refine EVs_cons rfl ?_
    refine EV_local he rfl rfl rfl ?_
    refine EVs_cons rfl ?_
    refine EV_local he rfl rfl rfl ?_
    refine EVs_nil ?_
    refine c_renumber (d := e) hd'.symm (by omega) hT2 hP2 hn (hr _ (.head _)) (by omega) fun σ3 k3 hT3 hP3 => ?_
    refine ⟨_, _, rfl, ?_⟩
    have hD185 : D ≠ 185 := fun z => by
      obtain ⟨o, ho⟩ := hP2.raw
      subst z; rw [hD2] at ho; cases ho
    have hD3 := k3 _ _ hD2 (by simp; exact ⟨Ne.symm hDT, hD185⟩)
    refine EX_cons ?_
    refine EX_Expr rfl rfl ?_
    refine EV_append rfl rfl rfl rfl rfl ?_
    refine EV_local he rfl rfl rfl ⟨D, rfl, ⟨_, hD3⟩, ?_⟩
    refine EV_local he rfl rfl rfl ⟨_, hD3, by rw [Pc.toVs_map]; simp at hll ⊢; omega, ?_⟩
    refine EX_nil ?_
    refine ⟨trivial, .cons rfl (.cons rfl .nil), r, ls ++ [(rnS a ks').1], (rnS a ks').2, rfl, fun p hp => hr p (.tail _ hp), by omega, by simp at hll ⊢; omega, ?_, ?_, ?_, ?_, ?_⟩
    · rw [← he']; simp [rnSs]
    · exact (k2.trans (k3.wide (by simp))).updIn (.head _) _
    · refine (upd_same _ _ _).trans ?_
      rw [Pc.toVs_map, Pc.toVs_map]; simp
    · exact (upd_ne hDT).trans hT3
    · exact hP3.keep (S := [D]) ((Keep.refl _ _).updIn (.head _) _) (by simp [hD3])
  · rintro ρ2 σ2 ⟨hs, r, ls, ks', hv, hr, hz', hll, he', k2, hD2, hT2, hP2⟩
    cases r with
    | cons a r => cases hv
    | nil =>
      simp only [rnSs, List.append_nil] at he'
      rw [← he']
      exact ⟨hs, k2, hD2, hT2, hP2⟩
  · rintro ρ2 σ2 ⟨hs, k2, hD2, hT2, hP2⟩
    refine EX.sub hs ?_
    refine EX_cons ?_
    refine EX_Return ?_
    refine EV_Tuple ?_
    refine EVs_cons rfl ?_
    refine EV_tcall (x := "tuple") he rfl rfl rfl rfl (by decide) rfl rfl rfl ?_
    refine EVs_cons rfl ?_
    refine EV_local he rfl rfl rfl ?_
    refine EVs_nil ?_
    refine OP_tuple_list hD2 (by rw [Pc.toVs_map, List.length_map, rnSs_len]; omega) ?_
    refine EVs_cons rfl ?_
    refine EV_local he rfl rfl rfl ?_
    refine EVs_nil ⟨by simp, ?_⟩
    exact h _ (k2.drop hD) hT2 hP2
end
end RH
set_option Elab.async false
set_option maxRecDepth 100000
set_option maxHeartbeats 400000
set_option linter.all false
namespace RH
open PySem PySem.W PySem.Calls PyProof.Rows
theorem numS_call (k : Fin 3) : ¬ ((numS k == ("call" : Str)) = true) := by revert k; decide
theorem numS_bi (k : Fin 3) : ¬ ((numS k == ("builtin" : Str)) = true) := by revert k; decide
theorem numS_un (k : Fin 3) : ¬ ((numS k == ("unify" : Str)) = true) := by revert k; decide
theorem numS_cut (k : Fin 3) : ¬ ((numS k == ("cut" : Str)) = true) := by revert k; decide
theorem numS_fail (k : Fin 3) : ¬ ((numS k == ("fail" : Str)) = true) := by revert k; decide
structure KcA (σ : St) (x dx : Addr) (fn args goals : V) (n : Int) : Prop where
  x : σ x = some (.inst 236 dx)
  ns : σ dx = some (.ns [("functor", fn), ("args", args), ("goals", goals), ("count", .int n)])
section
variable {prog : Program} {w : World} {c : Cx w (hd1.heap_39 w.params)} {ρ : Loc} {σ : St} {Q : V → St → Prop}
theorem cls_kc : ClsOk (hd1.heap_39 w.params) 236 := ⟨rfl, rfl, rfl, rfl⟩
theorem at_kc1 : AttrOk (hd1.heap_39 w.params) 236 "functor" := ⟨rfl, rfl⟩
theorem at_kc2 : AttrOk (hd1.heap_39 w.params) 236 "args" := ⟨rfl, rfl⟩
theorem at_kc3 : AttrOk (hd1.heap_39 w.params) 236 "goals" := ⟨rfl, rfl⟩
theorem at_kc4 : AttrOk (hd1.heap_39 w.params) 236 "count" := ⟨rfl, rfl⟩
theorem c_Kc {d : Nat} (hd : d + 2 = c.d) (fn ar go : V) (n : Int) (h : ∀ σ' x dx, σ x = none → Keep [] σ σ' → KcA σ' x dx fn ar go n → Q (.loc x) σ') :
   CF prog c 236 [fn, ar, go, .int n] ρ σ Q := by
  refine CF_cls (fI := 233) (d := d + 1) hd rfl rfl rfl fun c' x dx hd' hx hdx hne => ?_
  refine CF_K (names := ["self", "functor", "args", "goals", "count"]) (hl := rfl) (d := d) hd'.symm rfl rfl (all5 fun a b c d e => by kernel_rfl) rfl (by decide) (by decide) (by decide) rfl rfl rfl fun c' hd' he => ?_
  have k0 : Keep [dx] σ (upd (upd σ dx (.ns [])) x (.inst 236 dx)) := Keep.updNew (Keep.updIn (Keep.refl _ _) (.head _) _) ((upd_ne hne).trans hx) _
  have e0 : upd (upd σ dx (.ns [])) x (.inst 236 dx) x = some (.inst 236 dx) := upd_same _ _ _
  have e1 : upd (upd σ dx (.ns [])) x (.inst 236 dx) dx = some (.ns []) := (upd_ne (Ne.symm hne)).trans (upd_same _ _ _)
  generalize upd (upd σ dx (.ns [])) x (.inst 236 dx) = σ0 at k0 e0 e1
  have u : ∀ {τ : St} {fs : List (Str × V)}, τ x = some (.inst 236 dx) → upd τ dx (.ns fs) x = some (.inst 236 dx) := fun e => (upd_ne hne).trans e
  refine EX_cons (EX_Attr rfl (EV_local he rfl rfl rfl (EV_local he rfl rfl rfl ⟨x, 236, dx, _, rfl, e0, e1, cls_kc, at_kc1, by decide, ?_⟩)))
  refine EX_cons (EX_Attr rfl (EV_local he rfl rfl rfl (EV_local he rfl rfl rfl ⟨x, 236, dx, _, rfl, u e0, upd_same _ _ _, cls_kc, at_kc2, Nat.le_of_ble_eq_true rfl, ?_⟩)))
  rw [upd_upd]
  refine EX_cons (EX_Attr rfl (EV_local he rfl rfl rfl (EV_local he rfl rfl rfl ⟨x, 236, dx, _, rfl, u e0, upd_same _ _ _, cls_kc, at_kc3, Nat.le_of_ble_eq_true rfl, ?_⟩)))
  rw [upd_upd]
  refine EX_cons (EX_Attr rfl (EV_local he rfl rfl rfl (EV_local he rfl rfl rfl ⟨x, 236, dx, _, rfl, u e0, upd_same _ _ _, cls_kc, at_kc4, Nat.le_of_ble_eq_true rfl, ?_⟩)))
  rw [upd_upd]
  exact EX_nil ⟨rfl, h _ x dx hx ((k0.updIn (.head _) _).drop hdx) ⟨u e0, upd_same _ _ _⟩⟩
theorem c_finish {d : Nat} (hd : d + 1 = c.d) (hdd : 117 ≤ d) (m : Addr) (fn : Int) {G : Addr} {as gs : List Pc} (hG : σ G = some (.list (Pc.toVs gs))) (hP : TabIs 185 tabP tabQ σ) {n : Nat} (hn : n ≤ 9) (hp : ∀ p ∈ as, p.isT n) (hl : as.length ≤ 1000)
   (hg : ∀ p ∈ gs, p.isG n) (hl' : gs.length ≤ 1000) (hz : (Pc.numss as).length + (Pc.numss gs).length ≤ 900000)
   (h : ∀ σ' x dx D, σ x = none → Keep [185] σ σ' → TabIs 185 tabP tabQ σ' → KcA σ' x dx (.int fn) (.tup (Pc.toVs (rnSs as []).1)) (.loc D) ((rnSs gs (rnSs as []).2).2.length : Nat) → σ' D = some (.list (Pc.toVs (rnSs gs (rnSs as []).2).1)) → Q (.loc x) σ') : CF prog c 387 [.loc m, .int fn, .tup (Pc.toVs as), .loc G] ρ σ Q := by
  obtain ⟨e, rfl⟩ : ∃ e, d = e + 1 := ⟨d - 1, by omega⟩
  refine CF_K (names := ["self", "functor", "args", "goals"]) (hl := rfl) (d := e + 1) hd rfl rfl (all4 fun a b c d => by kernel_rfl) rfl (by decide) (by decide) (by decide) rfl rfl rfl fun c' hd' he => ?_
  refine EX_cons ?_
  refine EX_Name he rfl rfl ?_
  refine EV_DictI fun T hT => ?_
  have k0 : Keep [] σ (upd σ T (.dictI [])) := (Keep.refl _ _).updNew hT _
  have hT0 : upd σ T (.dictI []) T = some (.dictI (numb [])) := upd_same _ _ _
  have hP0 := hP.keep k0 (by simp)
  have hG0 := k0 _ _ hG (by simp)
  generalize upd σ T (.dictI []) = σ0 at k0 hT0 hP0 hG0
  refine EX_cons ?_
  refine EX_Tuple2 he rfl rfl rfl rfl ?_
  refine EV_fcall (f := 401) he rfl rfl rfl rfl rfl rfl rfl ?_
  refine EVs_cons rfl ?_
  refine EV_local he rfl rfl rfl ?_
  refine EVs_cons rfl ?_
  refine EV_local he rfl rfl rfl ?_
  refine EVs_nil ?_
  refine c_renumber_all (d := e) hd'.symm (by omega) hT0 hP0 hn hp hl (by simp; omega) fun σ1 k1 hT1 hP1 => ?_
  refine ⟨_, _, rfl, ?_⟩
  have hGT : G ≠ T := fun z => by subst z; rw [hG] at hT; cases hT
  have hG185 : G ≠ 185 := fun z => by
    obtain ⟨o, ho⟩ := hP.raw
    subst z; rw [hG] at ho; cases ho
  have hG1 := k1 _ _ hG0 (by simp; exact ⟨hGT, hG185⟩)
  have k1' : Keep [T, 185] σ σ1 := (k0.wide (by simp)).trans k1
  refine EX_cons ?_
  refine EX_Name he rfl rfl ?_
  refine EV_List ?_
  refine EVs_nil ⟨by simp, fun D hD => ?_⟩
  have hTD : T ≠ D := neF hT1 hD
  have hGD : G ≠ D := neF hG1 hD
  have k2 : Keep [D, T, 185] σ (upd σ1 D (.list [])) := (k1'.wide (by simp)).updIn (.head _) _
  have hDn : σ D = none := k1'.none hD (by
    simp
    refine ⟨fun z => hTD z.symm, fun z => ?_⟩
    obtain ⟨o, ho⟩ := hP1.raw
    rw [z, ho] at hD; cases hD)
  have hD2 : upd σ1 D (.list []) D = some (.list []) := upd_same _ _ _
  have hT2 : upd σ1 D (.list []) T = _ := (upd_ne hTD).trans hT1
  have hG2 : upd σ1 D (.list []) G = _ := (upd_ne hGD).trans hG1
  have hP2 : TabIs 185 tabP tabQ (upd σ1 D (.list [])) := hP1.keep ((Keep.refl [] _).updNew hD _) (by simp)
  generalize upd σ1 D (.list []) = σ2 at k2 hD2 hT2 hG2 hP2
  refine EX_cons ?_
  refine EX_For he rfl (fun _ => rfl) ?_
  refine EV_local he rfl rfl rfl ⟨_, _, .list hG2, ?_⟩
  have hka := rnSs_keys as []
  refine FB_run (fun vs ρ σ' => Sub [("functor", .int fn), ("args", .tup (Pc.toVs (rnSs as []).1)), ("table", .loc T), ("done", .loc D)] ρ ∧ ∃ (r : List Pc) (ls : List Pc) (ks' : List Int), vs = Pc.toVs r ∧ (∀ p ∈ r, p.isG n) ∧ ks'.length + (Pc.numss r).length ≤ 900000 ∧ ls.length + r.length = gs.length ∧
      (ls ++ (rnSs r ks').1, (rnSs r ks').2) = rnSs gs (rnSs as []).2 ∧ Keep [D, T, 185] σ σ' ∧ σ' D = some (.list (Pc.toVs ls)) ∧ σ' T = some (.dictI (numb ks')) ∧ TabIs 185 tabP tabQ σ')
    (fun ρ σ' => Sub [("functor", .int fn), ("args", .tup (Pc.toVs (rnSs as []).1)), ("table", .loc T), ("done", .loc D)] ρ ∧ Keep [D, T, 185] σ σ' ∧ σ' D = some (.list (Pc.toVs (rnSs gs (rnSs as []).2).1)) ∧ σ' T = some (.dictI (numb (rnSs gs (rnSs as []).2).2)) ∧ TabIs 185 tabP tabQ σ') ?_ ?_ ?_
    ⟨.cons rfl (.cons rfl (.cons rfl (.cons rfl .nil))), gs, [], (rnSs as []).2, rfl, hg, by simp at hka; omega, by simp, rfl, k2, hD2, hT2, hP2⟩
  · rintro v vs ρ2 σ3 ⟨hs, r, ls, ks', hv, hr, hz', hll, he', k3, hD3, hT3, hP3⟩
    cases r with
    | nil => cases hv
    | cons a r =>
    cases hv
    refine EX.sub (ρ' := lset [("functor", .int fn), ("args", .tup (Pc.toVs (rnSs as []).1)), ("table", .loc T), ("done", .loc D)] "goal" a.toV) (Sub.both hs) ?_
    have hsn : (Pc.numss (a :: r)).length = a.nums.length + (Pc.numss r).length := by simp [Pc.numss]
    have hk1 := rnS_keys a ks'
    have hn185 := ne185 hT3 hP3
    have hD185 : D ≠ 185 := fun z => by
      obtain ⟨o, ho⟩ := hP3.raw
      subst z; rw [hD3] at ho; cases ho
    have hG3 : σ3 G = _ := k3 _ _ hG (by simp; exact ⟨hGD, hGT, hG185⟩)
    have next : ∀ ρ3 σ4, Sub [("functor", .int fn), ("args", .tup (Pc.toVs (rnSs as []).1)), ("table", .loc T), ("done", .loc D)] ρ3 → Keep [D, T, 185] σ3 σ4 → σ4 D = some (.list (Pc.toVs ls ++ [(rnS a ks').1.toV])) → σ4 T = some (.dictI (numb (rnS a ks').2)) → TabIs 185 tabP tabQ σ4 →
        (σ4 G = some (.list (Pc.toVs gs))) ∧ (Sub [("functor", .int fn), ("args", .tup (Pc.toVs (rnSs as []).1)), ("table", .loc T), ("done", .loc D)] ρ3 ∧ ∃ (r' : List Pc) (ls : List Pc) (ks' : List Int), Pc.toVs r = Pc.toVs r' ∧ (∀ p ∈ r', p.isG n) ∧ ks'.length + (Pc.numss r').length ≤ 900000 ∧ ls.length + r'.length = gs.length ∧
      (ls ++ (rnSs r' ks').1, (rnSs r' ks').2) = rnSs gs (rnSs as []).2 ∧ Keep [D, T, 185] σ σ4 ∧ σ4 D = some (.list (Pc.toVs ls)) ∧ σ4 T = some (.dictI (numb ks')) ∧ TabIs 185 tabP tabQ σ4) := by
      intro ρ3 σ4 hs4 k4 hD4 hT4 hP4
      have k5 := k3.trans k4
      refine ⟨k5 _ _ hG (by simp; exact ⟨hGD, hGT, hG185⟩), hs4, r, ls ++ [(rnS a ks').1], (rnS a ks').2, rfl, fun p hp => hr p (.tail _ hp), by omega, by simp at hll ⊢; omega, ?_, k5, ?_, hT4, hP4⟩
      · rw [← he']; simp [rnSs]
      · rw [hD4, Pc.toVs_map, Pc.toVs_map]; simp
    have hDl : (Pc.toVs ls).length ≤ 1000000 := by rw [Pc.toVs_map]; simp at hll ⊢; omega
    refine EX_cons ?_
    refine EX_Name he rfl rfl ?_
    cases a with
    | var i => exact (hr _ (.head _)).elim
    | leaf b => exact (hr _ (.head _)).elim
    | st k f as' =>
      obtain ⟨hk0, hal, hat⟩ := hr _ (.head _)
      have hk : k = 1 ∨ k = 2 := by
        have : k.val = 1 ∨ k.val = 2 := by
          have := k.isLt
          have h0 : k.val ≠ 0 := fun z => hk0 (Fin.ext z)
          omega
        exact this.elim (fun z => .inl (Fin.ext z)) fun z => .inr (Fin.ext z)
      have hsn' : (Pc.st k f as').nums.length = (Pc.numss as').length := by simp [Pc.nums]
      refine EV_Sub (fun _ _ => rfl) ?_
      refine EV_local he rfl rfl rfl ?_
      refine EV_int ⟨_, 0, .str (stS k), rfl, rfl, rfl, ?_⟩
      refine EX_cons ?_
      refine EX_If ?_
      refine TR_or ?_
      refine TR_Compare rfl ?_
      refine EV_local he rfl rfl rfl ?_
      refine EV_str (OP_eqs ⟨_, rfl, ?_⟩)
      rcases hk with rfl | rfl
      · rw [if_pos (by decide)]
        rw [if_pos rfl]
        refine EX_cons ?_
        refine EX_Tuple2 he rfl rfl rfl rfl ?_
        refine EV_fcall (f := 401) he rfl rfl rfl rfl rfl rfl rfl ?_
        refine EVs_cons rfl ?_
        refine EV_Sub (fun _ _ => rfl) ?_
        refine EV_local he rfl rfl rfl ?_
        refine EV_int ⟨_, 2, .tup (Pc.toVs as'), rfl, rfl, rfl, ?_⟩
        refine EVs_cons rfl ?_
        refine EV_local he rfl rfl rfl ?_
        refine EVs_nil ?_
        refine c_renumber_all (d := e) hd'.symm (by omega) hT3 hP3 hn hat (by omega) (by omega) fun σ4 k4 hT4 hP4 => ?_
        refine ⟨_, _, rfl, ?_⟩
        have hD4 := k4 _ _ hD3 (by simp; exact ⟨Ne.symm hTD, hD185⟩)
        refine EX_cons ?_
        refine EX_Expr rfl rfl ?_
        refine EV_append rfl rfl rfl rfl rfl ?_
        refine EV_local he rfl rfl rfl ⟨D, rfl, ⟨_, hD4⟩, ?_⟩
        refine EV_Tuple ?_
        refine EVs_cons rfl ?_
        refine EV_local he rfl rfl rfl ?_
        refine EVs_cons rfl ?_
        refine EV_Sub (fun _ _ => rfl) ?_
        refine EV_local he rfl rfl rfl ?_
        refine EV_int ⟨_, 1, .int f, rfl, rfl, rfl, ?_⟩
        refine EVs_cons rfl ?_
        refine EV_local he rfl rfl rfl ?_
        refine EVs_nil ⟨by simp, ?_⟩
        refine ⟨_, hD4, hDl, ?_⟩
        refine EX_nil ?_
        refine EX_nil ?_
        refine next _ _ (.cons rfl (.cons rfl (.cons rfl (.cons rfl .nil)))) ((k4.wide (by simp)).updIn (.head _) _) (upd_same _ _ _) ?_ ?_
        · exact (upd_ne hTD).trans hT4
        · exact hP4.keep (S := [D]) ((Keep.refl _ _).updIn (.head _) _) (by simp [hD4])
      · rw [if_neg (by decide)]
        refine TR_or ?_
        refine TR_Compare rfl ?_
        refine EV_local he rfl rfl rfl ?_
        refine EV_str (OP_eqs ⟨_, rfl, ?_⟩)
        rw [if_pos (by decide)]
        rw [if_pos rfl]
        refine EX_cons ?_
        refine EX_Tuple2 he rfl rfl rfl rfl ?_
        refine EV_fcall (f := 401) he rfl rfl rfl rfl rfl rfl rfl ?_
        refine EVs_cons rfl ?_
        refine EV_Sub (fun _ _ => rfl) ?_
        refine EV_local he rfl rfl rfl ?_
        refine EV_int ⟨_, 2, .tup (Pc.toVs as'), rfl, rfl, rfl, ?_⟩
        refine EVs_cons rfl ?_
        refine EV_local he rfl rfl rfl ?_
        refine EVs_nil ?_
        refine c_renumber_all (d := e) hd'.symm (by omega) hT3 hP3 hn hat (by omega) (by omega) fun σ4 k4 hT4 hP4 => ?_
        refine ⟨_, _, rfl, ?_⟩
        have hD4 := k4 _ _ hD3 (by simp; exact ⟨Ne.symm hTD, hD185⟩)
        refine EX_cons ?_
        refine EX_Expr rfl rfl ?_
        refine EV_append rfl rfl rfl rfl rfl ?_
        refine EV_local he rfl rfl rfl ⟨D, rfl, ⟨_, hD4⟩, ?_⟩
        refine EV_Tuple ?_
        refine EVs_cons rfl ?_
        refine EV_local he rfl rfl rfl ?_
        refine EVs_cons rfl ?_
        refine EV_Sub (fun _ _ => rfl) ?_
        refine EV_local he rfl rfl rfl ?_
        refine EV_int ⟨_, 1, .int f, rfl, rfl, rfl, ?_⟩
        refine EVs_cons rfl ?_
        refine EV_local he rfl rfl rfl ?_
        refine EVs_nil ⟨by simp, ?_⟩
        refine ⟨_, hD4, hDl, ?_⟩
        refine EX_nil ?_
        refine EX_nil ?_
        refine next _ _ (.cons rfl (.cons rfl (.cons rfl (.cons rfl .nil)))) ((k4.wide (by simp)).updIn (.head _) _) (upd_same _ _ _) ?_ ?_
        · exact (upd_ne hTD).trans hT4
        · exact hP4.keep (S := [D]) ((Keep.refl _ _).updIn (.head _) _) (by simp [hD4])
    | uni l r' =>
      obtain ⟨hl1, hr1⟩ := hr _ (.head _)
      have hsn' : (Pc.uni l r').nums.length = l.nums.length + r'.nums.length := by simp [Pc.nums]
      refine EV_Sub (fun _ _ => rfl) ?_
      refine EV_local he rfl rfl rfl ?_
      refine EV_int ⟨_, 0, .str "unify", rfl, rfl, rfl, ?_⟩
      refine EX_cons ?_
      refine EX_If ?_
      refine TR_or ?_
      refine TR_Compare rfl ?_
      refine EV_local he rfl rfl rfl ?_
      refine EV_str (OP_eqs ⟨_, rfl, ?_⟩)
      rw [if_neg (by decide)]
      refine TR_or ?_
      refine TR_Compare rfl ?_
      refine EV_local he rfl rfl rfl ?_
      refine EV_str (OP_eqs ⟨_, rfl, ?_⟩)
      rw [if_neg (by decide)]
      refine TR_or0 ?_
      rw [if_neg (by decide)]
      refine EX_cons ?_
      refine EX_If ?_
      refine TR_Compare rfl ?_
      refine EV_local he rfl rfl rfl ?_
      refine EV_str (OP_eqs ⟨_, rfl, ?_⟩)
      rw [if_pos (by decide)]
      refine EX_cons ?_
      refine EX_Tuple2 he rfl rfl rfl rfl ?_
      refine EV_fcall (f := 401) he rfl rfl rfl rfl rfl rfl rfl ?_
      refine EVs_cons rfl ?_
      refine EV_Tuple ?_
      refine EVs_cons rfl ?_
      refine EV_Sub (fun _ _ => rfl) ?_
      refine EV_local he rfl rfl rfl ?_
      refine EV_int ⟨_, 1, l.toV, rfl, rfl, rfl, ?_⟩
      refine EVs_cons rfl ?_
      refine EV_Sub (fun _ _ => rfl) ?_
      refine EV_local he rfl rfl rfl ?_
      refine EV_int ⟨_, 2, r'.toV, rfl, rfl, rfl, ?_⟩
      refine EVs_nil ⟨by simp, ?_⟩
      refine EVs_cons rfl ?_
      refine EV_local he rfl rfl rfl ?_
      refine EVs_nil ?_
      refine c_renumber_all (d := e) (l := [l, r']) hd'.symm (by omega) hT3 hP3 hn (by simp; exact ⟨hl1, hr1⟩) (by simp) (by simp [Pc.numss]; omega) fun σ4 k4 hT4 hP4 => ?_
      refine ⟨_, _, rfl, ?_⟩
      have hD4 := k4 _ _ hD3 (by simp; exact ⟨Ne.symm hTD, hD185⟩)
      refine EX_cons ?_
      refine EX_Expr rfl rfl ?_
      refine EV_append rfl rfl rfl rfl rfl ?_
      refine EV_local he rfl rfl rfl ⟨D, rfl, ⟨_, hD4⟩, ?_⟩
      refine EV_Tuple ?_
      refine EVs_cons rfl ?_
      refine EV_local he rfl rfl rfl ?_
      refine EVs_cons rfl ?_
      refine EV_Sub (fun _ _ => rfl) ?_
      refine EV_local he rfl rfl rfl ?_
      refine EV_int ⟨_, 0, (rnS l ks').1.toV, rfl, rfl, rfl, ?_⟩
      refine EVs_cons rfl ?_
      refine EV_Sub (fun _ _ => rfl) ?_
      refine EV_local he rfl rfl rfl ?_
      refine EV_int ⟨_, 1, (rnS r' (rnS l ks').2).1.toV, rfl, rfl, rfl, ?_⟩
      refine EVs_nil ⟨by simp, ?_⟩
      refine ⟨_, hD4, hDl, ?_⟩
      refine EX_nil ?_
      refine EX_nil ?_
      refine EX_nil ?_
      refine next _ _ (.cons rfl (.cons rfl (.cons rfl (.cons rfl .nil)))) ((k4.wide (by simp)).updIn (.head _) _) (upd_same _ _ _) ?_ ?_
      · exact (upd_ne hTD).trans hT4
      · exact hP4.keep (S := [D]) ((Keep.refl _ _).updIn (.head _) _) (by simp [hD4])
    | bare b =>
      refine EV_Sub (fun _ _ => rfl) ?_
      refine EV_local he rfl rfl rfl ?_
      refine EV_int ⟨_, 0, .str (bareS b), rfl, rfl, rfl, ?_⟩
      refine EX_cons ?_
      refine EX_If ?_
      refine TR_or ?_
      refine TR_Compare rfl ?_
      refine EV_local he rfl rfl rfl ?_
      refine EV_str (OP_eqs ⟨_, rfl, ?_⟩)
      rw [if_neg (by cases b <;> decide)]
      refine TR_or ?_
      refine TR_Compare rfl ?_
      refine EV_local he rfl rfl rfl ?_
      refine EV_str (OP_eqs ⟨_, rfl, ?_⟩)
      rw [if_neg (by cases b <;> decide)]
      refine TR_or0 ?_
      rw [if_neg (by decide)]
      refine EX_cons ?_
      refine EX_If ?_
      refine TR_Compare rfl ?_
      refine EV_local he rfl rfl rfl ?_
      refine EV_str (OP_eqs ⟨_, rfl, ?_⟩)
      rw [if_neg (by cases b <;> decide)]
      refine EX_cons ?_
      refine EX_If ?_
      refine TR_or ?_
      refine TR_Compare rfl ?_
      refine EV_local he rfl rfl rfl ?_
      refine EV_str (OP_eqs ⟨_, rfl, ?_⟩)
      cases b
      · rw [if_pos (by decide)]
        rw [if_pos rfl]
        refine EX_cons ?_
        refine EX_Expr rfl rfl ?_
        refine EV_append rfl rfl rfl rfl rfl ?_
        refine EV_local he rfl rfl rfl ⟨D, rfl, ⟨_, hD3⟩, ?_⟩
        refine EV_local he rfl rfl rfl ?_
        refine ⟨_, hD3, hDl, ?_⟩
        refine EX_nil ?_
        refine EX_nil ?_
        refine EX_nil ?_
        refine EX_nil ?_
        refine next _ _ (.cons rfl (.cons rfl (.cons rfl (.cons rfl .nil)))) ((Keep.refl _ _).updIn (.head _) _) (upd_same _ _ _) ?_ ?_
        · exact (upd_ne hTD).trans hT3
        · exact hP3.keep (S := [D]) ((Keep.refl _ _).updIn (.head _) _) (by simp [hD3])
      · rw [if_neg (by decide)]
        refine TR_or ?_
        refine TR_Compare rfl ?_
        refine EV_local he rfl rfl rfl ?_
        refine EV_str (OP_eqs ⟨_, rfl, ?_⟩)
        rw [if_pos (by decide)]
        rw [if_pos rfl]
        refine EX_cons ?_
        refine EX_Expr rfl rfl ?_
        refine EV_append rfl rfl rfl rfl rfl ?_
        refine EV_local he rfl rfl rfl ⟨D, rfl, ⟨_, hD3⟩, ?_⟩
        refine EV_local he rfl rfl rfl ?_
        refine ⟨_, hD3, hDl, ?_⟩
        refine EX_nil ?_
        refine EX_nil ?_
        refine EX_nil ?_
        refine EX_nil ?_
        refine next _ _ (.cons rfl (.cons rfl (.cons rfl (.cons rfl .nil)))) ((Keep.refl _ _).updIn (.head _) _) (upd_same _ _ _) ?_ ?_
        · exact (upd_ne hTD).trans hT3
        · exact hP3.keep (S := [D]) ((Keep.refl _ _).updIn (.head _) _) (by simp [hD3])
    | num k i =>
      refine EV_Sub (fun _ _ => rfl) ?_
      refine EV_local he rfl rfl rfl ?_
      refine EV_int ⟨_, 0, .str (numS k), rfl, rfl, rfl, ?_⟩
      refine EX_cons ?_
      refine EX_If ?_
      refine TR_or ?_
      refine TR_Compare rfl ?_
      refine EV_local he rfl rfl rfl ?_
      refine EV_str (OP_eqs ⟨_, rfl, ?_⟩)
      rw [if_neg (numS_call k)]
      refine TR_or ?_
      refine TR_Compare rfl ?_
      refine EV_local he rfl rfl rfl ?_
      refine EV_str (OP_eqs ⟨_, rfl, ?_⟩)
      rw [if_neg (numS_bi k)]
      refine TR_or0 ?_
      rw [if_neg (by decide)]
      refine EX_cons ?_
      refine EX_If ?_
      refine TR_Compare rfl ?_
      refine EV_local he rfl rfl rfl ?_
      refine EV_str (OP_eqs ⟨_, rfl, ?_⟩)
      rw [if_neg (numS_un k)]
      refine EX_cons ?_
      refine EX_If ?_
      refine TR_or ?_
      refine TR_Compare rfl ?_
      refine EV_local he rfl rfl rfl ?_
      refine EV_str (OP_eqs ⟨_, rfl, ?_⟩)
      rw [if_neg (numS_cut k)]
      refine TR_or ?_
      refine TR_Compare rfl ?_
      refine EV_local he rfl rfl rfl ?_
      refine EV_str (OP_eqs ⟨_, rfl, ?_⟩)
      rw [if_neg (numS_fail k)]
      refine TR_or0 ?_
      rw [if_neg (by decide)]
      refine EX_cons ?_
      refine EX_If ?_
      refine TR_Compare rfl ?_
      refine EV_Sub (fun _ _ => rfl) ?_
      refine EV_local he rfl rfl rfl ?_
      refine EV_int ⟨_, 1, .int i, rfl, rfl, rfl, ?_⟩
      refine EV_local he rfl rfl rfl ?_
      refine OP_notIn_dictI hT3 ⟨_, rfl, ?_⟩
      rw [kget_numb]
      by_cases q : i ∈ ks'
      · have e : touch ks' i = ks' := if_pos q
        rw [if_pos q, if_neg (by simp)]
        refine EX_nil ?_
        refine EX_cons ?_
        refine EX_Expr rfl rfl ?_
        refine EV_append rfl rfl rfl rfl rfl ?_
        refine EV_local he rfl rfl rfl ⟨D, rfl, ⟨_, hD3⟩, ?_⟩
        refine EV_Tuple ?_
        refine EVs_cons rfl ?_
        refine EV_local he rfl rfl rfl ?_
        refine EVs_cons rfl ?_
        refine EV_SubI (fun _ _ => rfl) ?_
        refine EV_local he rfl rfl rfl ?_
        refine EV_Sub (fun _ _ => rfl) ?_
        refine EV_local he rfl rfl rfl ?_
        refine EV_int ⟨_, 1, .int i, rfl, rfl, rfl, ?_⟩
        refine ⟨T, _, i, _, rfl, hT3, rfl, (kget_numb ks' i).trans (if_pos q), ?_⟩
        refine EVs_nil ⟨by simp, ?_⟩
        refine ⟨_, hD3, hDl, ?_⟩
        refine EX_nil ?_
        refine EX_nil ?_
        refine EX_nil ?_
        refine EX_nil ?_
        refine next _ _ (.cons rfl (.cons rfl (.cons rfl (.cons rfl .nil)))) ((Keep.refl _ _).updIn (.head _) _) ?_ ?_ ?_
        · refine (upd_same _ _ _).trans ?_
          simp only [rnS, Pc.toV, e]
        · refine (upd_ne hTD).trans ?_
          simp only [rnS, e]
          exact hT3
        · exact hP3.keep (S := [D]) ((Keep.refl _ _).updIn (.head _) _) (by simp [hD3])
      · have e : touch ks' i = ks' ++ [i] := if_neg q
        have hks : ks'.length ≤ 900000 := by omega
        rw [if_neg q, if_pos (by simp)]
        refine EX_cons ?_
        refine EX_Set rfl ?_
        refine EV_bcall (x := "len") he rfl rfl rfl rfl (by decide) rfl rfl rfl ?_
        refine EVs_cons rfl ?_
        refine EV_local he rfl rfl rfl ?_
        refine EVs_nil ?_
        refine OP_len_dictI hT3 (by rw [numb_length]; omega) ?_
        refine EV_local he rfl rfl rfl ?_
        refine EV_Sub (fun _ _ => rfl) ?_
        refine EV_local he rfl rfl rfl ?_
        refine EV_int ⟨_, 1, .int i, rfl, rfl, rfl, ?_⟩
        refine ⟨T, _, .i hT3 (by rw [numb_length]; omega), ?_⟩
        rw [numb_length, kset_numb q, ← e]
        have hT4 : upd σ3 T (.dictI (numb (touch ks' i))) T = _ := upd_same _ _ _
        have hD4 : upd σ3 T (.dictI (numb (touch ks' i))) D = _ := (upd_ne (Ne.symm hTD)).trans hD3
        have k4 : Keep [T] σ3 (upd σ3 T (.dictI (numb (touch ks' i)))) := (Keep.refl _ _).updIn (.head _) _
        have hP4 := hP3.keep k4 (by simp [hT3])
        generalize upd σ3 T (.dictI (numb (touch ks' i))) = σ4 at hT4 hD4 k4 hP4
        refine EX_nil ?_
        refine EX_cons ?_
        refine EX_Expr rfl rfl ?_
        refine EV_append rfl rfl rfl rfl rfl ?_
        refine EV_local he rfl rfl rfl ⟨D, rfl, ⟨_, hD4⟩, ?_⟩
        refine EV_Tuple ?_
        refine EVs_cons rfl ?_
        refine EV_local he rfl rfl rfl ?_
        refine EVs_cons rfl ?_
        refine EV_SubI (fun _ _ => rfl) ?_
        refine EV_local he rfl rfl rfl ?_
        refine EV_Sub (fun _ _ => rfl) ?_
        refine EV_local he rfl rfl rfl ?_
        refine EV_int ⟨_, 1, .int i, rfl, rfl, rfl, ?_⟩
        refine ⟨T, _, i, _, rfl, hT4, rfl, (kget_numb _ i).trans (if_pos (touch_mem _ _)), ?_⟩
        refine EVs_nil ⟨by simp, ?_⟩
        refine ⟨_, hD4, hDl, ?_⟩
        refine EX_nil ?_
        refine EX_nil ?_
        refine EX_nil ?_
        refine EX_nil ?_
        refine next _ _ (.cons rfl (.cons rfl (.cons rfl (.cons rfl .nil)))) ((k4.wide (by simp)).updIn (.head _) _) (upd_same _ _ _) ?_ ?_
        · exact (upd_ne hTD).trans hT4
        · exact hP4.keep (S := [D]) ((Keep.refl _ _).updIn (.head _) _) (by simp [hD4])
  · rintro ρ2 σ2 ⟨hs, r, ls, ks', hv, hr, hz', hll, he', k2, hD2, hT2, hP2⟩
    cases r with
    | cons a r => cases hv
    | nil =>
      simp only [rnSs, List.append_nil] at he'
      rw [← he']
      exact ⟨hs, k2, hD2, hT2, hP2⟩
  · rintro ρ2 σ3 ⟨hs, k3, hD3, hT3, hP3⟩
    refine EX.sub hs ?_
    have hkb := rnSs_keys gs (rnSs as []).2
    refine EX_cons ?_
    refine EX_Return ?_
    refine EV_fcall (f := 236) he rfl rfl rfl rfl rfl rfl rfl ?_
    refine EVs_cons rfl ?_
    refine EV_local he rfl rfl rfl ?_
    refine EVs_cons rfl ?_
    refine EV_local he rfl rfl rfl ?_
    refine EVs_cons rfl ?_
    refine EV_local he rfl rfl rfl ?_
    refine EVs_cons rfl ?_
    refine EV_bcall (x := "len") he rfl rfl rfl rfl (by decide) rfl rfl rfl ?_
    refine EVs_cons rfl ?_
    refine EV_local he rfl rfl rfl ?_
    refine EVs_nil ?_
    refine OP_len_dictI hT3 (by rw [numb_length]; simp at hka; omega) ?_
    refine EVs_nil ?_
    rw [numb_length]
    refine c_Kc (d := e - 1) (by omega) _ _ _ _ fun σ4 x dx hx k4 hK => ?_
    have kF : Keep [185] σ σ4 := (((k3.trans (k4.wide (by simp))).drop hDn).drop hT)
    refine h σ4 x dx D ?_ kF (hP3.keep k4 (by simp)) hK (k4 _ _ hD3 (by simp))
    refine k3.none hx ?_
    obtain ⟨o, ho⟩ := hP3.raw
    simp
    exact ⟨neF' hD3 hx, neF' hT3 hx, neF' ho hx⟩
end
end RH
set_option Elab.async false
set_option maxRecDepth 100000
set_option maxHeartbeats 4000000
set_option linter.all false
namespace RH
open PySem PySem.W PySem.Calls PyProof.Rows
/-- what the law has drawn -/
structure Drawn (σ : St) (L G : Addr) (as gs : List Pc) (tm pl : Int) (fo : Option V) : Prop where
  c2 : σ (L + 2) = some (.cell (some (.int tm)))
  c3 : σ (L + 3) = some (.cell (some (.int pl)))
  c4 : σ (L + 4) = some (.cell fo)
  tab : TabIs 185 tabP tabQ σ
  g : σ G = some (.list (gs.map Pc.toV))
structure DrawnP (as gs : List Pc) (tm : Int) : Prop where
  a : ∀ p ∈ as, p.isT 2
  al : as.length ≤ 3
  g : ∀ p ∈ gs, p.isG 2
  gl : gs.length ≤ 5
  t1 : 1 ≤ tm
  t2 : tm ≤ 4
theorem cells_at {L n i : Nat} (h : 185 < L) (h1 : 1 ≤ i) (h2 : i ≤ n) : cells L n (L + i) = some (.cell none) := by
  have e1 : ¬ (L + i = 185) := by omega
  have e2 : L < L + i ∧ L + i ≤ L + n := by omega
  exact (if_neg e1).trans (if_pos e2)
theorem cells_tab (L n : Nat) {pos : Pos} {q : Str} : TabIs 185 pos q (cells L n) := .new (if_pos rfl)
structure W0 (σ : St) (L A : Addr) (cs : List Int) (u2 u3 u4 : Option V) : Prop where
  c1 : σ (L + 1) = some (.cell (some (.loc A)))
  c2 : σ (L + 2) = some (.cell u2)
  c3 : σ (L + 3) = some (.cell u3)
  c4 : σ (L + 4) = some (.cell u4)
  tab : TabIs 185 tabP tabQ σ
  a : σ A = some (.list (intl cs.reverse))
theorem W0.keepL {σ σ' : St} {L A : Addr} {cs cs' : List Int} {u2 u3 u4 : Option V} {S : List Addr} (h : W0 σ L A cs u2 u3 u4) (k : Keep S σ σ') (hS : ∀ a ∈ S, ∃ l, σ a = some (.list l)) (hA : σ' A = some (.list (intl cs'.reverse))) : W0 σ' L A cs' u2 u3 u4 where
  c1 := k _ _ h.c1 fun m => by obtain ⟨l, e⟩ := hS _ m; rw [h.c1] at e; cases e
  c2 := k _ _ h.c2 fun m => by obtain ⟨l, e⟩ := hS _ m; rw [h.c2] at e; cases e
  c3 := k _ _ h.c3 fun m => by obtain ⟨l, e⟩ := hS _ m; rw [h.c3] at e; cases e
  c4 := k _ _ h.c4 fun m => by obtain ⟨l, e⟩ := hS _ m; rw [h.c4] at e; cases e
  tab := h.tab.keep k fun a m o => by obtain ⟨l, e⟩ := hS _ m; rw [e]; simp
  a := hA
theorem W0.keep0 {σ σ' : St} {L A : Addr} {cs : List Int} {u2 u3 u4 : Option V} (h : W0 σ L A cs u2 u3 u4) (k : Keep [] σ σ') : W0 σ' L A cs u2 u3 u4 := h.keepL k (by simp) (k _ _ h.a (by simp))
theorem W0.keepA {σ σ' : St} {L A : Addr} {cs cs' : List Int} {u2 u3 u4 : Option V} (h : W0 σ L A cs u2 u3 u4) (k : Keep [A] σ σ') (hA : σ' A = some (.list (intl cs'.reverse))) : W0 σ' L A cs' u2 u3 u4 := h.keepL k (by simp [h.a]) hA
theorem addN {L i j : Nat} (h : i ≠ j) : L + i ≠ L + j := by omega
theorem TabIs.updC {σ : St} {pos : Pos} {q : Str} {a : Addr} {u : Option V} {o : AO} (h : TabIs 185 pos q σ) (e : σ a = some (.cell u)) : TabIs 185 pos q (upd σ a o) := h.keep (S := [a]) ((Keep.refl _ _).updIn (.head _) _) (by simp [e])
theorem W0.set2 {σ : St} {L A : Addr} {cs : List Int} {u2 u3 u4 v : Option V} (h : W0 σ L A cs u2 u3 u4) : W0 (upd σ (L + 2) (.cell v)) L A cs v u3 u4 where
  c1 := (upd_ne (addN (by decide))).trans h.c1
  c2 := upd_same _ _ _
  c3 := (upd_ne (addN (by decide))).trans h.c3
  c4 := (upd_ne (addN (by decide))).trans h.c4
  tab := h.tab.updC h.c2
  a := (upd_ne fun z => by have := h.a; rw [z, h.c2] at this; cases this).trans h.a
theorem W0.set3 {σ : St} {L A : Addr} {cs : List Int} {u2 u3 u4 v : Option V} (h : W0 σ L A cs u2 u3 u4) : W0 (upd σ (L + 3) (.cell v)) L A cs u2 v u4 where
  c1 := (upd_ne (addN (by decide))).trans h.c1
  c2 := (upd_ne (addN (by decide))).trans h.c2
  c3 := upd_same _ _ _
  c4 := (upd_ne (addN (by decide))).trans h.c4
  tab := h.tab.updC h.c3
  a := (upd_ne fun z => by have := h.a; rw [z, h.c3] at this; cases this).trans h.a
section
variable {prog : Program} {w : World} {c : Cx w (hd1.heap_39 w.params)}
theorem law1_seg1 {name qual : Str} {params : Arguments} {body : List Stmt} {scope : Scope} {dV kV doc pm cdv ct : Value} {an : Option Addr} {fo : Obj} (hl : (hd1.heap_39 w.params).lookup 449 = some fo)
    (hfd : fo.data = .func (fnX name qual params body scope [] dV kV doc pm an cdv ct)) {nm : Str} {fa : Addr} {cd : Value} (hd : c.d = 494) (h185 : 185 < c.L) {x : Addr} {xs : List Int} (hG : Given c x xs) (hz : xs.length ≤ 63) {Q : Fl → Loc → St → Prop}
    (next : ∀ ρ' σ' as gs tm pl G, Sub [("args", .tup (as.map Pc.toV)), ("goals", .loc G)] ρ' → Drawn σ' c.L G as gs tm pl none → DrawnP as gs tm → EX prog c (execs (body.drop 5) (envOfC nm scope c.L fa cd)) ρ' σ' Q) :
    EX prog c (execs body (envOfC nm scope c.L fa cd)) [("script", .loc x)] (cells c.L 4) Q := by
  have he0 : scope.kind = .function → EnvOk c (envOfC nm scope c.L fa cd) := fun h => ⟨rfl, h, rfl, rfl⟩
  obtain rfl := Option.some.inj (hl.symm.trans rfl)
  cases hfd
  have he := he0 rfl
  refine EX_cons ?_
  refine EX_NameC he rfl rfl rfl ?_
  refine EV_fcall (f := 408) he rfl rfl rfl rfl rfl rfl rfl ?_
  refine EVs_cons rfl ?_
  refine EV_local he rfl rfl rfl ?_
  refine EVs_nil ?_
  refine c_coinsG (d := 493) (by omega) (by decide) (by omega) hG fun A cs0 σ1 hAn k1 hA hcs => ?_
  obtain ⟨cs, rfl⟩ : ∃ cs : List Int, cs0 = cs.reverse := ⟨cs0.reverse, by simp⟩
  have hcs : cs.length ≤ 1000 := by simpa using hcs
  have d1 := k1 _ _ (cells_at (i := 1) (n := 4) h185 (by decide) (by decide)) (by simp)
  refine ⟨_, d1, ?_⟩
  have W : W0 (upd σ1 (c.L + 1) (.cell (some (.loc A)))) c.L A cs none none none := {
    c1 := upd_same _ _ _
    c2 := (upd_ne (addN (by decide))).trans (k1 _ _ (cells_at (i := 2) (n := 4) h185 (by decide) (by decide)) (by simp))
    c3 := (upd_ne (addN (by decide))).trans (k1 _ _ (cells_at (i := 3) (n := 4) h185 (by decide) (by decide)) (by simp))
    c4 := (upd_ne (addN (by decide))).trans (k1 _ _ (cells_at (i := 4) (n := 4) h185 (by decide) (by decide)) (by simp))
    tab := ((cells_tab c.L 4).keep k1 (by simp)).updC d1
    a := (upd_ne fun z => by rw [z, d1] at hA; cases hA).trans hA }
  generalize upd σ1 (c.L + 1) (.cell (some (.loc A))) = σ2 at W
  clear hA k1 hAn d1
  -- args
  refine EX_cons ?_
  refine EX_Name he rfl rfl ?_
  refine EV_tcall (x := "tuple") he rfl rfl rfl rfl (by decide) rfl rfl rfl ?_
  refine EVs_cons rfl ?_
  refine EV_ListComp he rfl (by decide) rfl (by decide) rfl (fun _ => rfl) ?_
  refine EV_tcall (x := "range") he rfl rfl rfl rfl (by decide) rfl rfl rfl ?_
  refine EVs_cons rfl ?_
  refine EV_fcall (f := 415) he rfl rfl rfl rfl rfl rfl rfl ?_
  refine EVs_cons rfl ?_
  refine EV_cell he rfl rfl rfl W.c1 ?_
  refine EVs_int ?_
  refine EVs_nil ?_
  refine c_coin (d := 493) (by omega) (by decide) (by decide) (by omega) W.a fun σ3 k3 ha3 => ?_
  have W3 := W.keepA k3 ha3
  have hq0 := coin_ge cs (n := 3) (by decide)
  have hq1 := coin_lt cs (n := 3) (by decide)
  obtain ⟨q, hq⟩ : ∃ q : Nat, coin cs 3 = q := ⟨(coin cs 3).toNat, by omega⟩
  rw [hq]
  have hcs3 : cs.tail.length ≤ 1000 := Nat.le_trans (tail_le _) hcs
  generalize cs.tail = cs at W3 hcs3
  clear W k3 ha3
  refine EVs_nil ?_
  refine OP_range fun r t u v hr => ?_
  refine ⟨_, _, .range (n := q) (by omega) (upd_same _ _ _), fun c2 D hd2 he2 hD => ⟨trivial, ?_⟩⟩
  have W4 := W3.keep0 (((Keep.refl [] _).updNew hr (.raw { cls := .type "range", data := .fields #[.int 0 t, .int (q : Nat) u, .int 1 v] })).updNew hD (.list []))
  have hDa : D ≠ A := neF' ((upd_ne (neF W3.a hr)).trans W3.a) hD
  have hD4 : upd (upd σ3 r (.raw { cls := .type "range", data := .fields #[.int 0 t, .int (q : Nat) u, .int 1 v] })) D (.list []) D = some (.list []) := upd_same _ _ _
  refine gen_CB Pc.toV (Pc.isT 2) W4.c1 hD4 hDa W4.a (by omega) (by simp [rangeV]; omega) ?_ ?_
  · intro ρ2 σ4 cs' Q' hc4 ha4 hz4 hQ
    refine EV_fcall (f := 420) he2 rfl rfl rfl rfl rfl rfl rfl ?_
    refine EVs_cons rfl ?_
    refine EV_cell he2 rfl rfl rfl hc4 ?_
    refine EVs_int ?_
    refine EVs_nil ?_
    exact c_thing 2 (d := 493) (by omega) (by decide) hz4 ha4 hQ
  intro σ5 as cs5 hD5 k5 ha5 hcs5 has hal
  have W5 := W4.keepL k5 (by
    intro a ha
    simp at ha
    rcases ha with rfl | rfl
    · exact ⟨_, hD4⟩
    · exact ⟨_, W4.a⟩) ha5
  have hal' : as.length ≤ 3 := by rw [hal]; simp [rangeV]; omega
  clear W4 W3 hD4 k5 hr hD
  refine EVs_nil ?_
  refine OP_tuple_list hD5 (by simp; omega) ?_
  clear hD5
  -- goals
  refine EX_cons ?_
  refine EX_ListComp he rfl rfl (by decide) rfl (by decide) rfl rfl (fun _ => rfl) ?_
  refine EV_tcall (x := "range") he rfl rfl rfl rfl (by decide) rfl rfl rfl ?_
  refine EVs_cons rfl ?_
  refine EV_BinOp ?_
  refine EV_int ?_
  refine EV_fcall (f := 415) he rfl rfl rfl rfl rfl rfl rfl ?_
  refine EVs_cons rfl ?_
  refine EV_cell he rfl rfl rfl W5.c1 ?_
  refine EVs_int ?_
  refine EVs_nil ?_
  refine c_coin (d := 493) (by omega) (by decide) (by decide) (by omega) ha5 fun σ6 k6 ha6 => ?_
  have W6 := W5.keepA k6 ha6
  have hp0 := coin_ge cs5 (n := 5) (by decide)
  have hp1 := coin_lt cs5 (n := 5) (by decide)
  obtain ⟨p, hp⟩ : ∃ p : Nat, 1 + coin cs5 5 = p := ⟨(1 + coin cs5 5).toNat, by omega⟩
  refine OP_add ?_
  rw [hp]
  have hcs6 : cs5.tail.length ≤ 1000 := Nat.le_trans (tail_le _) (by omega)
  clear W5 k6 ha6 ha5
  refine EVs_nil ?_
  refine OP_range fun r t u v hr => ?_
  refine ⟨_, _, .range (n := p) (by omega) (upd_same _ _ _), fun c2 D hd2 he2 hD => ⟨trivial, ?_⟩⟩
  have W7 := W6.keep0 (((Keep.refl [] _).updNew hr (.raw { cls := .type "range", data := .fields #[.int 0 t, .int (p : Nat) u, .int 1 v] })).updNew hD (.list []))
  have hDa : D ≠ A := neF' ((upd_ne (neF W6.a hr)).trans W6.a) hD
  have hD7 : upd (upd σ6 r (.raw { cls := .type "range", data := .fields #[.int 0 t, .int (p : Nat) u, .int 1 v] })) D (.list []) D = some (.list []) := upd_same _ _ _
  refine gen_CB Pc.toV (Pc.isG 2) W7.c1 hD7 hDa W7.a (by omega) (by simp [rangeV]; omega) ?_ ?_
  · intro ρ2 σ4 cs' Q' hc4 ha4 hz4 hQ
    refine EV_fcall (f := 425) he2 rfl rfl rfl rfl rfl rfl rfl ?_
    refine EVs_cons rfl ?_
    refine EV_cell he2 rfl rfl rfl hc4 ?_
    refine EVs_nil ?_
    exact c_goal (d := 493) (by omega) (by decide) hz4 ha4 hQ
  intro σ8 gs cs8 hD8 k8 ha8 hcs8 hgs hgl
  have W8 := W7.keepL k8 (by
    intro a ha
    simp at ha
    rcases ha with rfl | rfl
    · exact ⟨_, hD7⟩
    · exact ⟨_, W7.a⟩) ha8
  have hgl' : gs.length ≤ 5 := by rw [hgl]; simp [rangeV]; omega
  clear W7 W6 hD7 k8 hr hD
  -- times
  refine EX_cons ?_
  refine EX_NameC he rfl rfl rfl ?_
  refine EV_BinOp ?_
  refine EV_int ?_
  refine EV_fcall (f := 415) he rfl rfl rfl rfl rfl rfl rfl ?_
  refine EVs_cons rfl ?_
  refine EV_cell he rfl rfl rfl W8.c1 ?_
  refine EVs_int ?_
  refine EVs_nil ?_
  refine c_coin (d := 493) (by omega) (by decide) (by decide) (by omega) ha8 fun σ9 k9 ha9 => ?_
  have W9 := W8.keepA k9 ha9
  have hD9 := k9 _ _ hD8 (by simpa using hDa)
  refine OP_add ?_
  refine ⟨_, W9.c2, ?_⟩
  have ht0 := coin_ge cs8 (n := 4) (by decide)
  have ht1 := coin_lt cs8 (n := 4) (by decide)
  have W10 := W9.set2 (v := some (.int (1 + coin cs8 4)))
  have hD10 : upd σ9 (c.L + 2) (.cell (some (.int (1 + coin cs8 4)))) D = _ := (upd_ne fun z => by rw [z, W9.c2] at hD9; cases hD9).trans hD9
  have hcs9 : cs8.tail.length ≤ 1000 := Nat.le_trans (tail_le _) (by omega)
  -- plus
  refine EX_cons ?_
  refine EX_NameC he rfl rfl rfl ?_
  refine EV_fcall (f := 415) he rfl rfl rfl rfl rfl rfl rfl ?_
  refine EVs_cons rfl ?_
  refine EV_cell he rfl rfl rfl W10.c1 ?_
  refine EVs_int ?_
  refine EVs_nil ?_
  refine c_coin (d := 493) (by omega) (by decide) (by decide) (by omega) W10.a fun σ11 k11 ha11 => ?_
  have W11 := W10.keepA k11 ha11
  have hD11 := k11 _ _ hD10 (by simpa using hDa)
  refine ⟨_, W11.c3, ?_⟩
  have W12 := W11.set3 (v := some (.int (coin cs8.tail 9)))
  have hD12 : upd σ11 (c.L + 3) (.cell (some (.int (coin cs8.tail 9)))) D = _ := (upd_ne fun z => by rw [z, W11.c3] at hD11; cases hD11).trans hD11
  exact next _ _ as gs _ _ D (.cons rfl (.cons rfl .nil)) ⟨W12.c2, W12.c3, W12.c4, W12.tab, hD12⟩ ⟨has, hal', hgs, hgl', by omega, by omega⟩
end
end RH
set_option Elab.async false
set_option maxRecDepth 100000
set_option maxHeartbeats 4000000
set_option linter.all false
namespace RH
open PySem PySem.W PySem.Calls PyProof.Rows
theorem Drawn.keepR {σ σ' : St} {L G : Addr} {as gs : List Pc} {tm pl : Int} {fo : Option V} {S : List Addr} (h : Drawn σ L G as gs tm pl fo) (k : Keep S σ σ') (hS : ∀ a ∈ S, ∃ o, σ a = some (.raw o)) (t : TabIs 185 tabP tabQ σ') : Drawn σ' L G as gs tm pl fo where
  c2 := k _ _ h.c2 fun m => by obtain ⟨l, e⟩ := hS _ m; rw [h.c2] at e; cases e
  c3 := k _ _ h.c3 fun m => by obtain ⟨l, e⟩ := hS _ m; rw [h.c3] at e; cases e
  c4 := k _ _ h.c4 fun m => by obtain ⟨l, e⟩ := hS _ m; rw [h.c4] at e; cases e
  tab := t
  g := k _ _ h.g fun m => by obtain ⟨l, e⟩ := hS _ m; rw [h.g] at e; cases e
theorem Drawn.keep0 {σ σ' : St} {L G : Addr} {as gs : List Pc} {tm pl : Int} {fo : Option V} (h : Drawn σ L G as gs tm pl fo) (k : Keep [] σ σ') : Drawn σ' L G as gs tm pl fo := h.keepR k (by simp) (h.tab.keep k (by simp))
theorem Drawn.keepT {σ σ' : St} {L G : Addr} {as gs : List Pc} {tm pl : Int} {fo : Option V} (h : Drawn σ L G as gs tm pl fo) (k : Keep [185] σ σ') (t : TabIs 185 tabP tabQ σ') : Drawn σ' L G as gs tm pl fo := h.keepR k (by
  intro a ha
  simp at ha
  subst ha
  exact h.tab.raw) t
theorem pcs_data (σ : St) {n : Nat} {l : List Pc} (h : ∀ p ∈ l, p.ok n) : VDs σ (l.map Pc.toV) (dsOf (l.map Pc.toV)) ∧ PyData.canLayAll0 (dsOf (l.map Pc.toV)) = true ∧ PyData.depthAll (dsOf (l.map Pc.toV)) ≤ 2 * n + 1 :=
  good_VDs σ _ _ (List.all_eq_true.mpr fun v hv => by
    obtain ⟨p, hp, rfl⟩ := List.mem_map.mp hv
    exact Pc.good n p (h p hp))
theorem okD_list {ds : List PyData} {n : Nat} (h : PyData.canLayAll0 ds = true) (h2 : PyData.depthAll ds ≤ n) (h3 : n ≤ 900) : okD (.list ds) = true := by
  simp [okD, PyData.canLay0, PyData.depth, h]; omega
theorem okD_tup {ds : List PyData} {n : Nat} (h : PyData.canLayAll0 ds = true) (h2 : PyData.depthAll ds ≤ n) (h3 : n ≤ 900) : okD (.tuple ds) = true := by
  simp [okD, PyData.canLay0, PyData.depth, h]; omega
theorem eqv_ok {d : PyData} (h : okD d = true) : PyData.eqv d d = true := PySem.SeqAt.eqv_refl d (okD.lay h)
theorem me_finish {w : World} : MethOk (hd1.heap_39 w.params) 390 "finish" 387 := ⟨rfl, rfl⟩
theorem numss_len {n : Nat} {l : List Pc} (h : ∀ p ∈ l, p.ok n) : (Pc.numss l).length ≤ l.length * 4 ^ n := (Pc.shapes_len fun a ha => Pc.len (h a ha)).2
theorem isT_up : ∀ {n : Nat} {p : Pc}, p.isT n → p.isT (n + 1)
  | 0, .var _, h => h
  | n + 1, .var _, h => h
  | 0, .leaf _, h => h
  | n + 1, .leaf _, h => h
  | n + 1, .st _ _ _, ⟨h0, h1, h2⟩ => ⟨h0, h1, fun a ha => isT_up (h2 a ha)⟩
  | 0, .st _ _ _, h => h.elim
  | 0, .uni _ _, h => h.elim
  | 0, .num _ _, h => h.elim
  | 0, .bare _, h => h.elim
  | _ + 1, .uni _ _, h => h.elim
  | _ + 1, .num _ _, h => h.elim
  | _ + 1, .bare _, h => h.elim
structure Made (σ : St) (k : Addr) (as gs : List Pc) (n : Int) : Prop where
  ex : ∃ dk D, KcA σ k dk (.int 9) (.tup (as.map Pc.toV)) (.loc D) n ∧ σ D = some (.list (gs.map Pc.toV))
theorem Made.keep {σ σ' : St} {k : Addr} {as gs : List Pc} {n : Int} {S : List Addr} (h : Made σ k as gs n) (kk : Keep S σ σ') (hS : ∀ a ∈ S, (∃ o, σ a = some (.raw o)) ∨ (∃ o, σ a = some (.cell o)) ∨ σ a = none) : Made σ' k as gs n := by
  obtain ⟨dk, D, h1, h2⟩ := h.ex
  have key : ∀ b o, σ b = some o → (∀ r, o ≠ .raw r) → (∀ r, o ≠ .cell r) → σ' b = some o := fun b o e n1 n2 => kk b o e fun m => by
    rcases hS b m with ⟨r, z⟩ | ⟨r, z⟩ | z <;> rw [e] at z <;> cases z
    · exact n1 _ rfl
    · exact n2 _ rfl
  exact ⟨dk, D, ⟨key _ _ h1.x (by simp) (by simp), key _ _ h1.ns (by simp) (by simp)⟩, key _ _ h2 (by simp) (by simp)⟩
structure Mkr (σ : St) (m : Addr) : Prop where
  ex : ∃ dm fs, σ m = some (.inst 390 dm) ∧ σ dm = some (.ns fs) ∧ fget fs "finish" = none
theorem Mkr.keep {σ σ' : St} {m : Addr} {S : List Addr} (h : Mkr σ m) (kk : Keep S σ σ') (hS : ∀ a ∈ S, (∃ o, σ a = some (.raw o)) ∨ (∃ o, σ a = some (.cell o)) ∨ σ a = none) : Mkr σ' m := by
  obtain ⟨dk, fs, h1, h2, h3⟩ := h.ex
  have key : ∀ b o, σ b = some o → (∀ r, o ≠ .raw r) → (∀ r, o ≠ .cell r) → σ' b = some o := fun b o e n1 n2 => kk b o e fun m => by
    rcases hS b m with ⟨r, z⟩ | ⟨r, z⟩ | z <;> rw [e] at z <;> cases z
    · exact n1 _ rfl
    · exact n2 _ rfl
  exact ⟨dk, fs, key _ _ h1 (by simp) (by simp), key _ _ h2 (by simp) (by simp), h3⟩
section
variable {prog : Program} {w : World} {c : Cx w (hd1.heap_39 w.params)} {ρ : Loc} {σ : St}
/-- finish, called on the maker -/
theorem c_fin {d : Nat} {Q : V → St → Prop} (hd : d + 1 = c.d) (hdd : 117 ≤ d) (m : Addr) {G : Addr} {as gs : List Pc} (hG : σ G = some (.list (gs.map Pc.toV))) (hP : TabIs 185 tabP tabQ σ) (hp : ∀ p ∈ as, p.isT 2) (hl : as.length ≤ 3)
   (hg : ∀ p ∈ gs, p.isG 2) (hl' : gs.length ≤ 5)
   (h : ∀ σ' k, Keep [185] σ σ' → TabIs 185 tabP tabQ σ' → Made σ' k (rnSs as []).1 (rnSs gs (rnSs as []).2).1 ((rnSs gs (rnSs as []).2).2.length : Nat) → Q (.loc k) σ') : CF prog c 387 [.loc m, .int 9, .tup (as.map Pc.toV), .loc G] ρ σ Q := by
  rw [← Pc.toVs_map] at hG ⊢
  have z1 := numss_len (n := 3) fun p hp' => (isT_up (hp p hp')).ok
  have z2 := numss_len (n := 3) fun p hp' => (hg p hp').ok
  have e4 : (4 : Nat) ^ 3 = 64 := by decide
  rw [e4] at z1 z2
  refine c_finish hd hdd m 9 hG hP (n := 2) (by decide) hp (by omega) hg (by omega) (by omega) fun σ' x dx D hx k t hK hD => ?_
  rw [Pc.toVs_map] at hK hD
  exact h σ' x k t ⟨dx, D, hK, hD⟩
theorem law1_seg2 {name qual : Str} {params : Arguments} {body : List Stmt} {scope : Scope} {dV kV doc pm cdv ct : Value} {an : Option Addr} {fo : Obj} (hl : (hd1.heap_39 w.params).lookup 449 = some fo)
    (hfd : fo.data = .func (fnX name qual params body scope [] dV kV doc pm an cdv ct)) {nm : Str} {fa : Addr} {cd : Value} (hd : c.d = 494) {Q : Fl → Loc → St → Prop} {as gs : List Pc} {tm pl : Int} {G : Addr}
    (hs : Sub [("args", .tup (as.map Pc.toV)), ("goals", .loc G)] ρ) (hD : Drawn σ c.L G as gs tm pl none) (hP : DrawnP as gs tm)
    (next : ∀ ρ' σ' m k, Sub [("args", .tup (as.map Pc.toV)), ("goals", .loc G), ("maker", .loc m), ("made", .loc k)] ρ' → Drawn σ' c.L G as gs tm pl none → Mkr σ' m → Made σ' k (rnSs as []).1 (rnSs gs (rnSs as []).2).1 ((rnSs gs (rnSs as []).2).2.length : Nat) → EX prog c (execs (body.drop 9) (envOfC nm scope c.L fa cd)) ρ' σ' Q) :
    EX prog c (execs (body.drop 5) (envOfC nm scope c.L fa cd)) ρ σ Q := by
  have he0 : scope.kind = .function → EnvOk c (envOfC nm scope c.L fa cd) := fun h => ⟨rfl, h, rfl, rfl⟩
  obtain rfl := Option.some.inj (hl.symm.trans rfl)
  cases hfd
  have he := he0 rfl
  refine EX.sub hs ?_
  clear hs
  -- maker
  refine EX_cons ?_
  refine EX_Name he rfl rfl ?_
  refine EV_fcall (f := 390) he rfl rfl rfl rfl rfl rfl rfl ?_
  refine EVs_cons rfl ?_
  refine EV_fcall0 (f := 122) he rfl rfl rfl rfl rfl ?_
  refine c_Symbols (d := 490) (by omega) (by decide) fun σ1 x1 _ _ _ _ _ _ k1 _ => ?_
  refine EVs_cons rfl ?_
  refine EV_DictI fun x2 hx2 => ?_
  refine EVs_cons rfl ?_
  refine EV_fcall (f := 215) he rfl rfl rfl rfl rfl rfl rfl ?_
  refine EVs_int ?_
  refine EVs_nil ?_
  refine c_Fresh (d := 492) (by omega) 0 fun σ3 x3 _ k3 => ?_
  refine EVs_int ?_
  refine EVs_nil ?_
  refine c_Norm (d := 492) (by omega) _ _ _ 0 fun σ4 m dm wk _ k4 hM => ?_
  have kk : Keep [] σ σ4 := ((k1.updNew hx2 _).trans k3).trans k4
  have hD4 := hD.keep0 kk
  have hM4 : Mkr σ4 m := ⟨dm, _, hM.x, hM.ns, rfl⟩
  clear hD k1 hx2 k3 k4 kk
  -- handed
  refine EX_cons ?_
  refine EX_Name he rfl rfl ?_
  refine EV_tcall (x := "list") he rfl rfl rfl rfl (by decide) rfl rfl rfl ?_
  refine EVs_cons rfl ?_
  refine EV_local he rfl rfl rfl ?_
  refine EVs_nil ?_
  have hgl := hP.gl
  refine OP_list_list hD4.g (by simp; omega) fun H hH => ?_
  have k5 : Keep [] σ4 (upd σ4 H (.list (gs.map Pc.toV))) := (Keep.refl _ _).updNew hH _
  have hD5 := hD4.keep0 k5
  have hM5 := hM4.keep k5 (by simp)
  have hH5 : upd σ4 H (.list (gs.map Pc.toV)) H = _ := upd_same _ _ _
  generalize upd σ4 H (.list (gs.map Pc.toV)) = σ5 at hD5 hM5 hH5
  clear hD4 hM4 k5 hH
  -- made
  refine EX_cons ?_
  refine EX_Name he rfl rfl ?_
  obtain ⟨dm, fs, m1, m2, m3⟩ := hM5.ex
  refine EV_meth rfl rfl rfl ?_
  refine EV_local he rfl rfl rfl ?_
  refine ⟨m, 390, dm, _, 387, rfl, m1, m2, cls_norm, me_finish, m3, ?_⟩
  refine EVs_int ?_
  refine EVs_cons rfl ?_
  refine EV_local he rfl rfl rfl ?_
  refine EVs_cons rfl ?_
  refine EV_local he rfl rfl rfl ?_
  refine EVs_nil ⟨.inl rfl, ?_⟩
  refine c_fin (d := 493) (by omega) (by decide) m hD5.g hD5.tab hP.a hP.al hP.g hP.gl fun σ6 k k6 t6 hK6 => ?_
  have hD6 := hD5.keepT k6 t6
  have hM6 := hM5.keep k6 (by
    intro a ha
    simp at ha; subst ha
    exact .inl hD5.tab.raw)
  have hH6 : σ6 H = some (.list (gs.map Pc.toV)) := k6 _ _ hH5 (by
    simp
    rintro rfl
    obtain ⟨o, e⟩ := hD5.tab.raw
    rw [hH5] at e; cases e)
  -- goals as handed
  refine EX_cons ?_
  refine EX_If ?_
  refine TR_Compare rfl ?_
  refine EV_local he rfl rfl rfl ?_
  refine EV_local he rfl rfl rfl ?_
  obtain ⟨v1, v2, v3⟩ := pcs_data σ6 fun p hp => (hP.g p hp).ok
  have ok := okD_list v2 v3 (by decide)
  refine OP_neD (by omega) (.loc hD6.g v1) (.loc hH6 v1) ok ok ⟨_, rfl, ?_⟩
  rw [eqv_ok ok, if_neg (by decide)]
  refine EX_nil ?_
  exact next _ _ m k (.cons rfl (.cons rfl (.cons rfl (.cons rfl .nil)))) hD6 hM6 hK6
end
end RH
set_option Elab.async false
set_option maxRecDepth 100000
set_option maxHeartbeats 4000000
set_option linter.all false
namespace RH
open PySem PySem.W PySem.Calls PyProof.Rows
mutual
theorem shape_good : ∀ (p : Pc), ∀ v ∈ p.shape, RH.good 2 v = true
  | .var i, v, h => by
    simp [Pc.shape] at h; subst h
    exact good_str _ (sok (by decide +kernel))
  | .leaf b, v, h => by
    simp [Pc.shape] at h; subst h
    exact leaf_good _ _
  | .st k f as, v, h => by
    simp only [Pc.shape, List.mem_cons] at h
    rcases h with h | h
    · subst h
      exact good_tup3 (good_str _ (sok (stS_ok k))) (good_int _ _) (good_int _ _)
    · exact shapes_good as v h
  | .uni l r, v, h => by
    simp only [Pc.shape, List.mem_cons, List.mem_append] at h
    rcases h with h | h | h
    · subst h
      exact good_str _ (sok (by decide +kernel))
    · exact shape_good l v h
    · exact shape_good r v h
  | .num k i, v, h => by
    simp [Pc.shape] at h; subst h
    exact good_str _ (sok (numS_ok k))
  | .bare b, v, h => by
    simp [Pc.shape] at h; subst h
    exact good_tup (n := 1) fun v hv => by
      simp at hv; subst hv
      exact good_str _ (sok (bareS_ok b))
theorem shapes_good : ∀ (l : List Pc), ∀ v ∈ Pc.shapes l, RH.good 2 v = true
  | [], v, h => by cases h
  | t :: r, v, h => by
    simp only [Pc.shapes, List.mem_append] at h
    rcases h with h | h
    · exact shape_good t v h
    · exact shapes_good r v h
end
theorem any_int (l : List Int) (i : Int) : ((l.map PyData.int).any fun y => PyData.eqv y (.int i)) = decide (i ∈ l) := by
  induction l with
  | nil => rfl
  | cons x r ih =>
    simp only [List.map_cons, List.any_cons, ih, PyData.eqv, List.mem_cons]
    by_cases q : x = i
    · subst q; simp
    · have q' : ¬ i = x := fun z => q z.symm
      simp [q, q']
theorem okD_int (i : Int) : okD (.int i) = true := by simp [okD, PyData.canLay0, PyData.depth]
theorem idx_at {l : List Int} {i : Int} (h : i ∈ l) : (∃ d, (l.map PyData.int)[ix l i]? = some d ∧ PyData.eqv d (.int i) = true) ∧ ∀ j d, j < ix l i → (l.map PyData.int)[j]? = some d → PyData.eqv d (.int i) = false := by
  have hlt : l.idxOf i < l.length := List.idxOf_lt_length_of_mem h
  refine ⟨⟨.int i, ?_, by simp [PyData.eqv]⟩, ?_⟩
  · unfold ix
    rw [List.getElem?_map, List.getElem?_eq_getElem hlt, List.getElem_idxOf hlt]
    rfl
  · intro j d hj e
    unfold ix at hj
    rw [List.getElem?_map, List.getElem?_eq_getElem (by omega)] at e
    cases e
    have := List.not_of_lt_findIdx (p := (· == i)) (xs := l) (i := j) hj
    simpa [PyData.eqv] using this
theorem shapes_data (σ : St) (l : List Pc) (a b : Nat) : ∃ ds, VDs σ ([.int a, .int b] ++ Pc.shapes l) ds ∧ PyData.canLayAll0 ds = true ∧ PyData.depthAll ds ≤ 2 :=
  ⟨_, good_VDs σ 2 _ (List.all_eq_true.mpr fun v hv => by
    simp only [List.cons_append, List.nil_append, List.mem_cons] at hv
    rcases hv with h | h | h
    · subst h; exact good_int _ _
    · subst h; exact good_int _ _
    · exact shapes_good l v h)⟩
theorem okD_shape {ds : List PyData} {M : List Int} (v2 : PyData.canLayAll0 ds = true) (v3 : PyData.depthAll ds ≤ 2) : okD (.tuple [.list ds, .list (M.map PyData.int)]) = true :=
  okD_tup (n := 4) (by simp only [PyData.canLayAll0, PyData.canLay0, v2, lay_intl, Bool.and_self]) (by simp only [PyData.depthAll, PyData.depth, dep_intl]; omega) (by decide)
theorem at_kc (w : World) : AttrOk (hd1.heap_39 w.params) 236 "args" ∧ AttrOk (hd1.heap_39 w.params) 236 "goals" ∧ AttrOk (hd1.heap_39 w.params) 236 "functor" ∧ AttrOk (hd1.heap_39 w.params) 236 "count" := ⟨at_kc2, at_kc3, at_kc1, at_kc4⟩
theorem isT_rn (K : List Int) {n : Nat} {l : List Pc} (h : ∀ p ∈ l, p.isT n) : ∀ p ∈ Pc.rens (idx K) l, p.isT n := by
  rw [Pc.rens_map]
  intro p hp
  obtain ⟨q, hq, rfl⟩ := List.mem_map.mp hp
  exact isT_ren _ (h q hq)
theorem isG_rn (K : List Int) {n : Nat} {l : List Pc} (h : ∀ p ∈ l, p.isG n) : ∀ p ∈ Pc.rens (idx K) l, p.isG n := by
  rw [Pc.rens_map]
  intro p hp
  obtain ⟨q, hq, rfl⟩ := List.mem_map.mp hp
  exact isG_ren _ (h q hq)
section
variable {prog : Program} {w : World} {c : Cx w (hd1.heap_39 w.params)} {ρ : Loc} {σ : St}
theorem law1_seg3 {name qual : Str} {params : Arguments} {body : List Stmt} {scope : Scope} {dV kV doc pm cdv ct : Value} {an : Option Addr} {fo : Obj} (hl : (hd1.heap_39 w.params).lookup 449 = some fo)
    (hfd : fo.data = .func (fnX name qual params body scope [] dV kV doc pm an cdv ct)) {nm : Str} {fa : Addr} {cd : Value} (hd : c.d = 494) {Q : Fl → Loc → St → Prop} {as gs : List Pc} {tm pl : Int} {G m k : Addr}
    (hs : Sub [("args", .tup (as.map Pc.toV)), ("goals", .loc G), ("maker", .loc m), ("made", .loc k)] ρ) (hD : Drawn σ c.L G as gs tm pl none) (hP : DrawnP as gs tm) (hM : Mkr σ m) (hK : Made σ k (rnSs as []).1 (rnSs gs (rnSs as []).2).1 ((rnSs gs (rnSs as []).2).2.length : Nat))
    (next : ∀ ρ' σ' u, Sub [("args", .tup (as.map Pc.toV)), ("goals", .loc G), ("maker", .loc m), ("made", .loc k)] ρ' → Drawn σ' c.L G as gs tm pl u → Mkr σ' m → Made σ' k (rnSs as []).1 (rnSs gs (rnSs as []).2).1 ((rnSs gs (rnSs as []).2).2.length : Nat) → EX prog c (execs (body.drop 14) (envOfC nm scope c.L fa cd)) ρ' σ' Q) :
    EX prog c (execs (body.drop 9) (envOfC nm scope c.L fa cd)) ρ σ Q := by
  have he0 : scope.kind = .function → EnvOk c (envOfC nm scope c.L fa cd) := fun h => ⟨rfl, h, rfl, rfl⟩
  obtain rfl := Option.some.inj (hl.symm.trans rfl)
  cases hfd
  have he := he0 rfl
  refine EX.sub hs ?_
  clear hs
  have hal := hP.al
  have hgl := hP.gl
  have aok : ∀ p ∈ as, p.ok 3 := fun p hp => (isT_up (hP.a p hp)).ok
  have gok : ∀ p ∈ gs, p.ok 3 := fun p hp => (hP.g p hp).ok
  refine EX_cons ?_
  refine EX_Tuple2 he rfl rfl rfl rfl ?_
  refine EV_fcall (f := 439) he rfl rfl rfl rfl rfl rfl rfl ?_
  refine EVs_cons rfl ?_
  refine EV_local he rfl rfl rfl ?_
  refine EVs_cons rfl ?_
  refine EV_local he rfl rfl rfl ?_
  refine EVs_nil ?_
  refine c_traced (d := 493) (by omega) (by decide) aok gok (by omega) hD.g fun σ1 sh nu hsh hnu k1 h1 h2 => ?_
  refine ⟨_, _, rfl, ?_⟩
  have hD1 := hD.keep0 k1
  have hM1 := hM.keep k1 (by simp)
  have hK1 := hK.keep k1 (by simp)
  clear hD hM hK k1 hsh hnu
  -- first ones
  refine EX_cons ?_
  refine EX_NameC he rfl rfl rfl ?_
  refine EV_List ?_
  refine EVs_nil ⟨by simp, fun FO hFO => ?_⟩
  have kF : Keep [] σ1 (upd σ1 FO (.list [])) := (Keep.refl _ _).updNew hFO _
  have c4F := kF _ _ hD1.c4 (by simp)
  refine ⟨_, c4F, ?_⟩
  have hL4 : c.L + 4 ≠ FO := neF hD1.c4 hFO
  have kX : Keep [c.L + 4] σ1 (upd (upd σ1 FO (.list [])) (c.L + 4) (.cell (some (.loc FO)))) := (kF.wide (by simp)).updIn (.head _) _
  have hD2 : Drawn (upd (upd σ1 FO (.list [])) (c.L + 4) (.cell (some (.loc FO)))) c.L G as gs tm pl (some (.loc FO)) := {
    c2 := kX _ _ hD1.c2 (by simp)
    c3 := kX _ _ hD1.c3 (by simp)
    c4 := upd_same _ _ _
    tab := (hD1.tab.keep kF (by simp)).updC c4F
    g := kX _ _ hD1.g (by simp; intro z; have := hD1.g; rw [z, hD1.c4] at this; cases this) }
  have f2 : upd (upd σ1 FO (.list [])) (c.L + 4) (.cell (some (.loc FO))) FO = some (.list (intl [])) := (upd_ne (Ne.symm hL4)).trans (upd_same _ _ _)
  have s2 := kX _ _ h2 (by simp; intro z; rw [z, hD1.c4] at h2; cases h2)
  have hnF : nu ≠ FO := neF h2 hFO
  have hsF : sh ≠ FO := neF h1 hFO
  have hGF : G ≠ FO := neF hD1.g hFO
  have h185F : (185 : Addr) ≠ FO := by
    obtain ⟨o, ho⟩ := hD1.tab.raw
    exact neF ho hFO
  generalize upd (upd σ1 FO (.list [])) (c.L + 4) (.cell (some (.loc FO))) = σ2 at kX hD2 s2 f2
  clear kF c4F
  have zN : (Pc.numss (as ++ gs)).length ≤ 1000 := by
    have z1 := numss_len aok
    have z2 := numss_len gok
    have e4 : (4 : Nat) ^ 3 = 64 := by decide
    rw [e4] at z1 z2
    rw [numss_append, List.length_append]
    omega
  refine EX_cons ?_
  refine EX_For he rfl (fun _ => rfl) ?_
  refine EV_local he rfl rfl rfl ⟨_, _, .list s2, ?_⟩
  refine FB_run (fun vs ρ σ' => Sub [("args", .tup (as.map Pc.toV)), ("goals", .loc G), ("maker", .loc m), ("made", .loc k), ("shape", .loc sh), ("numbers", .loc nu)] ρ ∧ ∃ (ones r : List Int), vs = intl r ∧ r.foldl touch ones = keysOf as gs ∧ ones.length + r.length ≤ 10000 ∧ σ' FO = some (.list (intl ones)) ∧ Keep [FO] σ2 σ')
    (fun ρ σ' => Sub [("args", .tup (as.map Pc.toV)), ("goals", .loc G), ("maker", .loc m), ("made", .loc k), ("shape", .loc sh), ("numbers", .loc nu)] ρ ∧ σ' FO = some (.list (intl (keysOf as gs))) ∧ (keysOf as gs).length ≤ 10000 ∧ Keep [FO] σ2 σ') ?_ ?_ ?_
    ⟨.cons rfl (.cons rfl (.cons rfl (.cons rfl (.cons rfl (.cons rfl .nil))))), [], _, rfl, rfl, by simp; omega, f2, .refl _ _⟩
  · rintro v vs ρ3 σ3 ⟨hs, ones, r, hv, hf, hz, hFO3, k3⟩
    cases r with
    | nil => cases hv
    | cons i r =>
    cases hv
    simp only [List.length_cons] at hz
    refine EX.sub (ρ' := lset [("args", .tup (as.map Pc.toV)), ("goals", .loc G), ("maker", .loc m), ("made", .loc k), ("shape", .loc sh), ("numbers", .loc nu)] "number" (.int i)) (Sub.both hs) ?_
    have c43 : σ3 (c.L + 4) = _ := k3 _ _ hD2.c4 (by simpa using hL4)
    refine EX_cons ?_
    refine EX_If ?_
    refine TR_Compare rfl ?_
    refine EV_local he rfl rfl rfl ?_
    refine EV_cell he rfl rfl rfl c43 ?_
    refine OP_notInD (by omega) (.int i) hFO3 (VDs_intl _ _) (okD_int i) (lay_intl _) ⟨_, rfl, ?_⟩
    rw [any_int]
    by_cases q : i ∈ ones
    · rw [if_neg (by simp [q])]
      have e : touch ones i = ones := if_pos q
      refine EX_nil ?_
      refine EX_nil ?_
      refine ⟨k3 _ _ s2 (by simpa using hnF), .cons rfl (.cons rfl (.cons rfl (.cons rfl (.cons rfl (.cons rfl .nil))))), ones, r, rfl, ?_, by omega, hFO3, k3⟩
      rw [← hf, List.foldl_cons, e]
    · rw [if_pos (by simp [q])]
      have e : touch ones i = ones ++ [i] := if_neg q
      refine EX_cons ?_
      refine EX_Expr rfl rfl ?_
      refine EV_append rfl rfl rfl rfl rfl ?_
      refine EV_cell he rfl rfl rfl c43 ?_
      refine ⟨FO, rfl, ⟨_, hFO3⟩, ?_⟩
      refine EV_local he rfl rfl rfl ?_
      refine ⟨_, hFO3, by simp [intl]; omega, ?_⟩
      refine EX_nil ?_
      refine EX_nil ?_
      have k4 : Keep [FO] σ2 (upd σ3 FO (.list (intl ones ++ [.int i]))) := k3.updIn (.head _) _
      refine ⟨k4 _ _ s2 (by simpa using hnF), .cons rfl (.cons rfl (.cons rfl (.cons rfl (.cons rfl (.cons rfl .nil))))), ones ++ [i], r, rfl, ?_, by simp; omega, ?_, k4⟩
      · rw [← hf, List.foldl_cons, e]
      · refine (upd_same _ _ _).trans ?_
        simp [intl]
  · rintro ρ3 σ3 ⟨hs, ones, r, hv, hf, hz, hFO3, k3⟩
    cases r with
    | cons i r => cases hv
    | nil =>
      simp only [List.foldl_nil] at hf
      subst hf
      exact ⟨hs, hFO3, by simpa using hz, k3⟩
  rintro ρ3 σ3 ⟨hs, f3, zK, k3⟩
  refine EX.sub hs ?_
  have kT : Keep [c.L + 4, FO] σ1 σ3 := (kX.wide (by simp)).trans (k3.wide (by simp))
  have hM3 := hM1.keep kT (by simp [hD1.c4, hFO])
  have hK3 := hK1.keep kT (by simp [hD1.c4, hFO])
  have s13 := kT _ _ h1 (by simp; exact ⟨(fun z => by rw [z, hD1.c4] at h1; cases h1), hsF⟩)
  have s23 := kT _ _ h2 (by simp; exact ⟨(fun z => by rw [z, hD1.c4] at h2; cases h2), hnF⟩)
  have hD3 : Drawn σ3 c.L G as gs tm pl (some (.loc FO)) := {
    c2 := k3 _ _ hD2.c2 (by simp; intro z; rw [← z, hD2.c2] at f2; cases f2)
    c3 := k3 _ _ hD2.c3 (by simp; intro z; rw [← z, hD2.c3] at f2; cases f2)
    c4 := k3 _ _ hD2.c4 (by simpa using hL4)
    tab := hD2.tab.keep k3 (by simp [f2])
    g := k3 _ _ hD2.g (by simpa using hGF) }
  clear hD1 hM1 hK1 kX hFO hL4 hD2 s2 f2 k3 kT h1 h2 hs
  obtain ⟨dk, Dg, kc, hDg⟩ := hK3.ex
  have ea := fin_args as gs
  have eg := fin_goals as gs
  have la : (rnSs as []).1.length = as.length := rnSs_len _ _
  have lg : (rnSs gs (rnSs as []).2).1.length = gs.length := rnSs_len _ _
  have esh : Pc.shapes ((rnSs as []).1 ++ (rnSs gs (rnSs as []).2).1) = Pc.shapes (as ++ gs) := by
    rw [ea, eg, shapes_append, shapes_ren, shapes_ren, ← shapes_append]
  have enu : Pc.numss ((rnSs as []).1 ++ (rnSs gs (rnSs as []).2).1) = (Pc.numss (as ++ gs)).map (idx (keysOf as gs)) := by
    rw [ea, eg, numss_append, numss_ren, numss_ren, ← List.map_append, ← numss_append]
  refine EX_cons ?_
  refine EX_If ?_
  refine TR_Compare rfl ?_
  refine EV_fcall (f := 439) he rfl rfl rfl rfl rfl rfl rfl ?_
  refine EVs_cons rfl ?_
  refine EV_attr rfl ?_
  refine EV_local he rfl rfl rfl ⟨k, 236, dk, _, _, rfl, kc.x, kc.ns, cls_kc, at_kc2, rfl, ?_⟩
  refine EVs_cons rfl ?_
  refine EV_attr rfl ?_
  refine EV_local he rfl rfl rfl ⟨k, 236, dk, _, _, rfl, kc.x, kc.ns, cls_kc, at_kc3, rfl, ?_⟩
  refine EVs_nil ?_
  refine c_traced (d := 493) (by omega) (by decide) (fun p hp => (isT_up (isT_rn _ hP.a p (ea ▸ hp))).ok) (fun p hp => (isG_rn _ hP.g p (eg ▸ hp)).ok) (by omega) hDg fun σ4 sh' nu' hsh' hnu' k4 h1 h2 => ?_
  rw [esh, la, lg] at h1
  rw [enu] at h2
  have s14 := k4 _ _ s13 (by simp)
  have s24 := k4 _ _ s23 (by simp)
  have f4 := k4 _ _ f3 (by simp)
  have hD4 := hD3.keep0 k4
  refine EV_Tuple ?_
  refine EVs_cons rfl ?_
  refine EV_local he rfl rfl rfl ?_
  refine EVs_cons rfl ?_
  refine EV_ListComp he rfl (by decide) rfl (by decide) rfl (fun _ => rfl) ?_
  refine EV_local he rfl rfl rfl ?_
  refine ⟨_, _, .list s24, fun c2 D hd2 he2 hDn => ⟨(upd_ne (neF s24 hDn)).trans s24, ?_⟩⟩
  have k5 : Keep [] σ4 (upd σ4 D (.list [])) := (Keep.refl _ _).updNew hDn _
  have hnD : nu ≠ D := neF s24 hDn
  have hFD : FO ≠ D := neF f4 hDn
  have h4D : c.L + 4 ≠ D := neF hD4.c4 hDn
  refine map_CB V.int V.int (idx (keysOf as gs)) (upd_same _ _ _) zN (fun σ' k' => k' _ _ (k5 _ _ s24 (by simp)) (by simpa using hnD)) ?_ ?_
  · intro i hi ρ2 σ6 Q' k6 hQ
    have f6 := k6 _ _ (k5 _ _ f4 (by simp)) (by simpa using hFD)
    have c6 := k6 _ _ (k5 _ _ hD4.c4 (by simp)) (by simpa using h4D)
    have hi' : i ∈ keysOf as gs := in_fold hi
    refine EV_index rfl rfl rfl rfl rfl ?_
    refine EV_cell he2 rfl rfl rfl c6 ?_
    refine ⟨FO, rfl, ⟨_, f6⟩, ?_⟩
    refine EV_local he2 rfl rfl (V := .int i) (by rw [lget_lset, if_pos rfl]) ?_
    exact OP_index (by omega) (.int i) f6 (VDs_intl _ _) (okD_int i) (lay_intl _) (by simp [intl]; omega) (idx_at hi').1 (idx_at hi').2 (hQ _ (Keep.refl _ _))
  intro σ7 hD7 k7
  refine EVs_nil ⟨by simp, ?_⟩
  have kA : Keep [] σ4 σ7 := ((k5.wide (by simp)).trans k7).drop hDn
  have h17 := kA _ _ h1 (by simp)
  have h27 := kA _ _ h2 (by simp)
  have s17 := kA _ _ s14 (by simp)
  have f7 := kA _ _ f4 (by simp)
  have hD7' : σ7 D = some (.list (intl ((Pc.numss (as ++ gs)).map (idx (keysOf as gs))))) := by
    rw [hD7]; simp [intl]
  obtain ⟨ds, v1, v2, v3⟩ := shapes_data σ7 (as ++ gs) as.length gs.length
  have okA : okD (.tuple [.list ds, .list (((Pc.numss (as ++ gs)).map (idx (keysOf as gs))).map PyData.int)]) = true := okD_shape v2 v3
  refine OP_neD (by omega) (.tup (.cons (.loc h17 v1) (.cons (.loc h27 (VDs_intl _ _)) .nil))) (.tup (.cons (.loc s17 v1) (.cons (.loc hD7' (VDs_intl _ _)) .nil))) okA okA ⟨_, rfl, ?_⟩
  rw [eqv_ok okA, if_neg (by decide)]
  refine EX_nil ?_
  have hDD := hD4.keep0 kA
  have hMM := (hM3.keep k4 (by simp)).keep kA (by simp)
  have hKK := (hK3.keep k4 (by simp)).keep kA (by simp)
  clear hD3 hM3 hK3 hD4 kc hDg hD7 hD7' k7 k5 okA v1 v2 v3 h17 h27 s17 s13 s23 s24 s14 f3 f4 h1 h2 k4 kA
  obtain ⟨dk, Dg, kc, hDg⟩ := hKK.ex
  refine EX_cons ?_
  refine EX_If ?_
  refine TR_Compare rfl ?_
  refine EV_Tuple ?_
  refine EVs_cons rfl ?_
  refine EV_attr rfl ?_
  refine EV_local he rfl rfl rfl ⟨k, 236, dk, _, _, rfl, kc.x, kc.ns, cls_kc, at_kc1, rfl, ?_⟩
  refine EVs_cons rfl ?_
  refine EV_attr rfl ?_
  refine EV_local he rfl rfl rfl ⟨k, 236, dk, _, _, rfl, kc.x, kc.ns, cls_kc, at_kc4, rfl, ?_⟩
  refine EVs_nil ⟨by simp, ?_⟩
  refine EV_Tuple ?_
  refine EVs_int ?_
  refine EVs_cons rfl ?_
  refine EV_bcall (x := "len") he rfl rfl rfl rfl (by decide) rfl rfl rfl ?_
  refine EVs_cons rfl ?_
  refine EV_cell he rfl rfl rfl hDD.c4 ?_
  refine EVs_nil ?_
  refine OP_len_list f7 (by simp [intl]; omega) ?_
  refine EVs_nil ⟨by simp, ?_⟩
  rw [keysOf_eq, show (intl (keysOf as gs)).length = (keysOf as gs).length by simp [intl]]
  have okB : okD (.tuple [.int 9, .int ((keysOf as gs).length : Nat)]) = true := okD_tup (n := 4) (by simp [PyData.canLayAll0, PyData.canLay0]) (by simp [PyData.depthAll, PyData.depth]) (by decide)
  refine OP_neD (by omega) (.tup (.cons (.int _) (.cons (.int _) .nil))) (.tup (.cons (.int _) (.cons (.int _) .nil))) okB okB ⟨_, rfl, ?_⟩
  rw [eqv_ok okB, if_neg (by decide)]
  refine EX_nil ?_
  exact next _ _ _ (.cons rfl (.cons rfl (.cons rfl (.cons rfl .nil)))) hDD hMM hKK
end
end RH
set_option Elab.async false
set_option maxRecDepth 100000
set_option maxHeartbeats 4000000
set_option linter.all false
namespace RH
open PySem PySem.W PySem.Calls PyProof.Rows
theorem bits_small {tm : Int} (h1 : 1 ≤ tm) (h2 : tm ≤ 4) : Builtin.Int.intBits tm ≤ 64 := by
  have : tm = 1 ∨ tm = 2 ∨ tm = 3 ∨ tm = 4 := by omega
  rcases this with rfl | rfl | rfl | rfl <;> decide
section
variable {prog : Program} {w : World} {c : Cx w (hd1.heap_39 w.params)} {ρ : Loc} {σ : St}
theorem law1_seg4 {name qual : Str} {params : Arguments} {body : List Stmt} {scope : Scope} {dV kV doc pm cdv ct : Value} {an : Option Addr} {fo : Obj} (hl : (hd1.heap_39 w.params).lookup 449 = some fo)
    (hfd : fo.data = .func (fnX name qual params body scope [] dV kV doc pm an cdv ct)) {nm : Str} {fa : Addr} {cd : Value} (hd : c.d = 494) {as gs : List Pc} {tm pl : Int} {G m k : Addr} {u : Option V}
    (hs : Sub [("args", .tup (as.map Pc.toV)), ("goals", .loc G), ("maker", .loc m), ("made", .loc k)] ρ) (hD : Drawn σ c.L G as gs tm pl u) (hP : DrawnP as gs tm) (hM : Mkr σ m) (hK : Made σ k (rnSs as []).1 (rnSs gs (rnSs as []).2).1 ((rnSs gs (rnSs as []).2).2.length : Nat)) :
    EX prog c (execs (body.drop 14) (envOfC nm scope c.L fa cd)) ρ σ (fun fl _ σ' => fl = .ret (.bool true) ∧ TabIs 185 tabP tabQ σ') := by
  have he0 : scope.kind = .function → EnvOk c (envOfC nm scope c.L fa cd) := fun h => ⟨rfl, h, rfl, rfl⟩
  obtain rfl := Option.some.inj (hl.symm.trans rfl)
  cases hfd
  have he := he0 rfl
  refine EX.sub hs ?_
  clear hs
  have hal := hP.al
  have hgl := hP.gl
  have aok : ∀ p ∈ as, p.ok 3 := fun p hp => (isT_up (hP.a p hp)).ok
  have gok : ∀ p ∈ gs, p.ok 3 := fun p hp => (hP.g p hp).ok
  have ea := fin_args as gs
  have eg := fin_goals as gs
  obtain ⟨i1, i2, i3⟩ := fin_inj (g := idx (keysOf as gs)) as gs (idx_inj as gs)
  rw [← ea] at i1 i2 i3
  rw [← eg] at i2 i3
  obtain ⟨j1, j2, j3⟩ := fin_inj (g := mov tm pl) as gs (fun x _ y _ => mov_inj (by have := hP.t1; omega) x y)
  have la : (rnSs as []).1.length = as.length := rnSs_len _ _
  have lg : (rnSs gs (rnSs as []).2).1.length = gs.length := rnSs_len _ _
  have aT : ∀ p ∈ (rnSs as []).1, p.isT 2 := fun p hp => isT_rn _ hP.a p (ea ▸ hp)
  have gT : ∀ p ∈ (rnSs gs (rnSs as []).2).1, p.isG 2 := fun p hp => isG_rn _ hP.g p (eg ▸ hp)
  generalize hA1 : (rnSs as []).1 = A1 at hK i1 i2 i3 j1 la aT
  generalize hG1 : (rnSs gs (rnSs as []).2).1 = G1 at hK i2 i3 j2 lg gT
  generalize hN1 : (rnSs gs (rnSs as []).2).2.length = N1 at hK i3 j3
  clear ea eg hA1 hG1 hN1
  obtain ⟨dk, Dg, kc, hDg⟩ := hK.ex
  obtain ⟨dm, fs, m1, m2, m3⟩ := hM.ex
  -- again
  refine EX_cons ?_
  refine EX_Name he rfl rfl ?_
  refine EV_meth rfl rfl rfl ?_
  refine EV_local he rfl rfl rfl ?_
  refine ⟨m, 390, dm, _, 387, rfl, m1, m2, cls_norm, me_finish, m3, ?_⟩
  refine EVs_int ?_
  refine EVs_cons rfl ?_
  refine EV_attr rfl ?_
  refine EV_local he rfl rfl rfl ⟨k, 236, dk, _, _, rfl, kc.x, kc.ns, cls_kc, at_kc2, rfl, ?_⟩
  refine EVs_cons rfl ?_
  refine EV_attr rfl ?_
  refine EV_local he rfl rfl rfl ⟨k, 236, dk, _, _, rfl, kc.x, kc.ns, cls_kc, at_kc3, rfl, ?_⟩
  refine EVs_nil ⟨.inl rfl, ?_⟩
  refine c_fin (d := 493) (by omega) (by decide) m hDg hD.tab aT (by omega) gT (by omega) fun σ1 ka k1 t1 hKa => ?_
  rw [i1, i2, i3] at hKa
  have raw185 : ∀ a ∈ [185], (∃ o, σ a = some (.raw o)) ∨ (∃ o, σ a = some (.cell o)) ∨ σ a = none := by
    intro a ha
    simp at ha; subst ha
    exact .inl hD.tab.raw
  have hD1 := hD.keepT k1 t1
  have hM1 := hM.keep k1 raw185
  have hK1 := hK.keep k1 raw185
  clear hD hM hK kc hDg m1 m2 m3 raw185 k1 t1 i1 i2 i3
  have hb := bits_small hP.t1 hP.t2
  -- moved args
  refine EX_cons ?_
  refine EX_Name he rfl rfl ?_
  refine EV_tcall (x := "tuple") he rfl rfl rfl rfl (by decide) rfl rfl rfl ?_
  refine EVs_cons rfl ?_
  refine EV_ListComp he rfl (by decide) rfl (by decide) rfl (fun _ => rfl) ?_
  refine EV_local he rfl rfl rfl ?_
  refine ⟨_, _, .tuple, fun c2 D hd2 he2 hDn => ⟨trivial, ?_⟩⟩
  have k5 : Keep [] σ1 (upd σ1 D (.list [])) := (Keep.refl _ _).updNew hDn _
  have h2D : c.L + 2 ≠ D := neF hD1.c2 hDn
  have h3D : c.L + 3 ≠ D := neF hD1.c3 hDn
  refine map_CB Pc.toV Pc.toV (Pc.ren (mov tm pl)) (upd_same _ _ _) (by omega) (fun _ _ => trivial) ?_ ?_
  · intro a ha ρ2 σ6 Q' k6 hQ
    have c26 := k6 _ _ (k5 _ _ hD1.c2 (by simp)) (by simpa using h2D)
    have c36 := k6 _ _ (k5 _ _ hD1.c3 (by simp)) (by simpa using h3D)
    refine EV_fcall (f := 444) he2 rfl rfl rfl rfl rfl rfl rfl ?_
    refine EVs_cons rfl ?_
    refine EV_local he2 rfl rfl (V := a.toV) (by rw [lget_lset, if_pos rfl]) ?_
    refine EVs_cons rfl ?_
    refine EV_cell he2 rfl rfl rfl c26 ?_
    refine EVs_cons rfl ?_
    refine EV_cell he2 rfl rfl rfl c36 ?_
    refine EVs_nil ?_
    exact c_moved 3 (d := 493) (by omega) (by decide) hb (aok a ha) hQ
  intro σ7 hD7 k7
  have kA : Keep [] σ1 σ7 := ((k5.wide (by simp)).trans k7).drop hDn
  refine EVs_nil ?_
  refine OP_tuple_list hD7 (by simp; omega) ?_
  have hDb := hD1.keep0 kA
  have hMb := hM1.keep kA (by simp)
  have hKb := hK1.keep kA (by simp)
  have hKab := hKa.keep kA (by simp)
  clear hD1 hM1 hK1 hKa kA k7 hD7 k5 h2D h3D hDn
  -- other
  obtain ⟨dm, fs, m1, m2, m3⟩ := hMb.ex
  refine EX_cons ?_
  refine EX_Name he rfl rfl ?_
  refine EV_meth rfl rfl rfl ?_
  refine EV_local he rfl rfl rfl ?_
  refine ⟨m, 390, dm, _, 387, rfl, m1, m2, cls_norm, me_finish, m3, ?_⟩
  refine EVs_int ?_
  refine EVs_cons rfl ?_
  refine EV_local he rfl rfl rfl ?_
  refine EVs_cons rfl ?_
  refine EV_ListComp he rfl (by decide) rfl (by decide) rfl (fun _ => rfl) ?_
  refine EV_local he rfl rfl rfl ?_
  refine ⟨_, _, .list hDb.g, fun c2 D hd2 he2 hDn => ⟨(upd_ne (neF hDb.g hDn)).trans hDb.g, ?_⟩⟩
  have k5 : Keep [] σ7 (upd σ7 D (.list [])) := (Keep.refl _ _).updNew hDn _
  have h2D : c.L + 2 ≠ D := neF hDb.c2 hDn
  have h3D : c.L + 3 ≠ D := neF hDb.c3 hDn
  have hGD : G ≠ D := neF hDb.g hDn
  refine map_CB Pc.toV Pc.toV (Pc.ren (mov tm pl)) (upd_same _ _ _) (by omega) (fun σ' k' => k' _ _ (k5 _ _ hDb.g (by simp)) (by simpa using hGD)) ?_ ?_
  · intro a ha ρ2 σ6 Q' k6 hQ
    have c26 := k6 _ _ (k5 _ _ hDb.c2 (by simp)) (by simpa using h2D)
    have c36 := k6 _ _ (k5 _ _ hDb.c3 (by simp)) (by simpa using h3D)
    refine EV_fcall (f := 444) he2 rfl rfl rfl rfl rfl rfl rfl ?_
    refine EVs_cons rfl ?_
    refine EV_local he2 rfl rfl (V := a.toV) (by rw [lget_lset, if_pos rfl]) ?_
    refine EVs_cons rfl ?_
    refine EV_cell he2 rfl rfl rfl c26 ?_
    refine EVs_cons rfl ?_
    refine EV_cell he2 rfl rfl rfl c36 ?_
    refine EVs_nil ?_
    exact c_moved 3 (d := 493) (by omega) (by decide) hb (gok a ha) hQ
  intro σ8 hD8 k8
  have kA : Keep [] σ7 σ8 := ((k5.wide (by simp)).trans k8).drop hDn
  have hDc := hDb.keep0 kA
  have hKc := hKb.keep kA (by simp)
  have hKac := hKab.keep kA (by simp)
  refine EVs_nil ⟨.inl rfl, ?_⟩
  have e1 : (as.map fun a => (Pc.ren (mov tm pl) a).toV) = (Pc.rens (mov tm pl) as).map Pc.toV := by rw [Pc.rens_map, List.map_map]; rfl
  have e2 : (gs.map fun a => (Pc.ren (mov tm pl) a).toV) = (Pc.rens (mov tm pl) gs).map Pc.toV := by rw [Pc.rens_map, List.map_map]; rfl
  rw [e2] at hD8
  rw [e1]
  have mT : ∀ p ∈ Pc.rens (mov tm pl) as, p.isT 2 := by
    rw [Pc.rens_map]
    intro p hp
    obtain ⟨q, hq, rfl⟩ := List.mem_map.mp hp
    exact isT_ren _ (hP.a q hq)
  have mG : ∀ p ∈ Pc.rens (mov tm pl) gs, p.isG 2 := by
    rw [Pc.rens_map]
    intro p hp
    obtain ⟨q, hq, rfl⟩ := List.mem_map.mp hp
    exact isG_ren _ (hP.g q hq)
  refine c_fin (d := 493) (by omega) (by decide) m hD8 hDc.tab mT (by rw [rens_len]; omega) mG (by rw [rens_len]; omega) fun σ9 kb k9 t9 hKo => ?_
  rw [j1, j2, j3] at hKo
  have raw185 : ∀ a ∈ [185], (∃ o, σ8 a = some (.raw o)) ∨ (∃ o, σ8 a = some (.cell o)) ∨ σ8 a = none := by
    intro a ha
    simp at ha; subst ha
    exact .inl hDc.tab.raw
  have hK9 := hKc.keep k9 raw185
  have hKa9 := hKac.keep k9 raw185
  clear hDb hMb hKb hKab hDc hKc hKac kA k8 hD8 k5 h2D h3D hDn hGD raw185 k9 m1 m2 m3 e1 e2 mT mG j1 j2 j3
  -- due
  obtain ⟨dk, Dk, kc, hDk⟩ := hK9.ex
  obtain ⟨da, Da, kca, hDa⟩ := hKa9.ex
  obtain ⟨db, Db, kcb, hDb⟩ := hKo.ex
  refine EX_cons ?_
  refine EX_Name he rfl rfl ?_
  refine EV_Tuple ?_
  refine EVs_cons rfl ?_
  refine EV_attr rfl ?_
  refine EV_local he rfl rfl rfl ⟨k, 236, dk, _, _, rfl, kc.x, kc.ns, cls_kc, at_kc2, rfl, ?_⟩
  refine EVs_cons rfl ?_
  refine EV_attr rfl ?_
  refine EV_local he rfl rfl rfl ⟨k, 236, dk, _, _, rfl, kc.x, kc.ns, cls_kc, at_kc3, rfl, ?_⟩
  refine EVs_cons rfl ?_
  refine EV_attr rfl ?_
  refine EV_local he rfl rfl rfl ⟨k, 236, dk, _, _, rfl, kc.x, kc.ns, cls_kc, at_kc4, rfl, ?_⟩
  refine EVs_nil ⟨by simp, ?_⟩
  obtain ⟨v1, v2, v3⟩ := pcs_data σ9 fun p hp => (isT_up (aT p hp)).ok
  obtain ⟨w1, w2, w3⟩ := pcs_data σ9 fun p hp => (gT p hp).ok
  have okT : okD (.tuple [.tuple (dsOf (A1.map Pc.toV)), .list (dsOf (G1.map Pc.toV)), .int (N1 : Nat)]) = true :=
    okD_tup (n := 20) (by simp only [PyData.canLayAll0, PyData.canLay0, v2, w2, Bool.and_self]) (by simp only [PyData.depthAll, PyData.depth]; omega) (by decide)
  refine EX_cons ?_
  refine EX_Return ?_
  refine EV_and ?_
  refine EV_Compare rfl ?_
  refine EV_Tuple ?_
  refine EVs_cons rfl ?_
  refine EV_attr rfl ?_
  refine EV_local he rfl rfl rfl ⟨ka, 236, da, _, _, rfl, kca.x, kca.ns, cls_kc, at_kc2, rfl, ?_⟩
  refine EVs_cons rfl ?_
  refine EV_attr rfl ?_
  refine EV_local he rfl rfl rfl ⟨ka, 236, da, _, _, rfl, kca.x, kca.ns, cls_kc, at_kc3, rfl, ?_⟩
  refine EVs_cons rfl ?_
  refine EV_attr rfl ?_
  refine EV_local he rfl rfl rfl ⟨ka, 236, da, _, _, rfl, kca.x, kca.ns, cls_kc, at_kc4, rfl, ?_⟩
  refine EVs_nil ⟨by simp, ?_⟩
  refine EV_local he rfl rfl rfl ?_
  refine OP_eqD (by omega) (.tup (.cons (.tup v1) (.cons (.loc hDa w1) (.cons (.int _) .nil)))) (.tup (.cons (.tup v1) (.cons (.loc hDk w1) (.cons (.int _) .nil)))) okT okT ?_
  rw [eqv_ok okT]
  refine OPb_bool ?_
  rw [if_pos rfl]
  refine EV_one ?_
  refine EV_Compare rfl ?_
  refine EV_Tuple ?_
  refine EVs_cons rfl ?_
  refine EV_attr rfl ?_
  refine EV_local he rfl rfl rfl ⟨kb, 236, db, _, _, rfl, kcb.x, kcb.ns, cls_kc, at_kc2, rfl, ?_⟩
  refine EVs_cons rfl ?_
  refine EV_attr rfl ?_
  refine EV_local he rfl rfl rfl ⟨kb, 236, db, _, _, rfl, kcb.x, kcb.ns, cls_kc, at_kc3, rfl, ?_⟩
  refine EVs_cons rfl ?_
  refine EV_attr rfl ?_
  refine EV_local he rfl rfl rfl ⟨kb, 236, db, _, _, rfl, kcb.x, kcb.ns, cls_kc, at_kc4, rfl, ?_⟩
  refine EVs_nil ⟨by simp, ?_⟩
  refine EV_local he rfl rfl rfl ?_
  refine OP_eqD (by omega) (.tup (.cons (.tup v1) (.cons (.loc hDb w1) (.cons (.int _) .nil)))) (.tup (.cons (.tup v1) (.cons (.loc hDk w1) (.cons (.int _) .nil)))) okT okT ?_
  rw [eqv_ok okT]
  exact ⟨rfl, t9⟩
theorem law1_body {name qual : Str} {params : Arguments} {body : List Stmt} {scope : Scope} {dV kV doc pm cdv ct : Value} {an : Option Addr} {fo : Obj} (hl : (hd1.heap_39 w.params).lookup 449 = some fo)
    (hfd : fo.data = .func (fnX name qual params body scope [] dV kV doc pm an cdv ct)) {nm : Str} {fa : Addr} {cd : Value} {L : Addr} (hL : c.L = L) (hd : c.d = 494) (h185 : 185 < L) {x : Addr} {xs : List Int} (hG : Given c x xs) (hz : xs.length ≤ 63) :
    EX prog c (execs body (envOfC nm scope L fa cd)) [("script", .loc x)] (cells L 4) (fun fl _ σ' => fl = .ret (.bool true) ∧ TabIs 185 tabP tabQ σ') := by
  subst hL
  refine law1_seg1 hl hfd hd h185 hG hz fun ρ1 σ1 as gs tm pl G s1 D1 hP => ?_
  refine law1_seg2 hl hfd hd s1 D1 hP fun ρ2 σ2 m k s2 D2 M2 K2 => ?_
  refine law1_seg3 hl hfd hd s2 D2 hP M2 K2 fun ρ3 σ3 u s3 D3 M3 K3 => ?_
  exact law1_seg4 hl hfd hd s3 D3 hP M3 K3
end
end RH
set_option maxRecDepth 100000
set_option maxHeartbeats 8000000
theorem PySem.Challenge.cw_rh0086_01_holds : PySem.Challenge.rw_rh0086_01.Holds :=
  hd1 (by
  w_strict (k_go0; (all_goals try k_fold)
            (rename ¬ _ => hlen)
            (rename IntsAre _ _ => hInts)
            (rename Frag.In _ _ => hX)
            (rename Below _ _ _ _ => hB)
            (rename Fr _ _ _ _ => hF)
            (rename News _ _ _ _ => hN)
            (rename Top topProg _ _ _ _ _ => hT)
            (rename Shared.gens _ = _ => hgens)
            (rename 185 < _ => h185)
            (rename Heap.IsList _ _ _ => hOld)
            refine RH.law_enter1 hX hT hB hF hN rfl rfl hOld hInts 4 (q := RH.tabQ) (pos := RH.tabP) ?_ ?_ ?_ ?_ ?_
            · rfl
            · exact .tail _ (.tail _ (.tail _ (.tail _ (.head _))))
            · intro i hi
              match i, hi with
              | 0, _ => exact ⟨_, .tail _ (.tail _ (.tail _ (.head _))), by assumption⟩
              | 1, _ => exact ⟨_, .tail _ (.tail _ (.head _)), by assumption⟩
              | 2, _ => exact ⟨_, .tail _ (.head _), by assumption⟩
              | 3, _ => exact ⟨_, .head _, by assumption⟩
            · intro c hL hG hd
              exact RH.law1_body (hl := rfl) rfl hL hd h185 hG (by omega)
            · intro s' m' hg ho hF' hgr
              refine ⟨?_, hgr, trivial⟩
              refine goodW_bool hF' (hg.trans hgens) (raisesW_false ?_) ?_ ho
              · wrow_none_raised
              · wrow_post))
