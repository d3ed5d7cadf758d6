import PyProof.Rows.All
import Wide.All
import OpenK.AllK
import Wide.FinOn
import PySem.Challenge.RW_xm0761_01
set_option Elab.async false
set_option rowWalk.seconds 0
set_option linter.all false
section
open PySem PySem.W PyProof.Rows
namespace Mine
theorem kk.tw13515531455235827292 : True := trivial
theorem kk.tw5920015363334922086 : True := trivial
theorem kk.tw16982150975351741799 : True := trivial
theorem kk.tw11265657862979909502 : True := trivial
theorem kk.tw14665118444080087585 : True := trivial
theorem kk.tw15106222518575028145 : True := trivial
theorem kk.tw4487270093289979765 : True := trivial
theorem kk.tw11096273776299625390 : True := trivial
theorem kk.tw8352057176305390634 : True := trivial
theorem kk.tw16874549795718622799 : True := trivial
theorem kk.tw2303261310873886247 : True := trivial
theorem kk.tw2234787983306236963 : True := trivial
theorem kk.tw9908037212970531743 : True := trivial
theorem kk.tw18336258978882459232 : True := trivial
theorem kk.tw8699855470168932427 : True := trivial
theorem kk.tw10799883685663463336 : True := trivial
theorem kk.tw605499070341383094 : True := trivial
theorem kk.tw12111887797316824763 : True := trivial
theorem kk.tw12111019525046820438 : True := trivial
theorem kk.tw10745273698541645620 : True := trivial
theorem kk.tw10437852496205286416 : True := trivial
theorem kk.tw10667442856565175910 : True := trivial
theorem kk.tw3776788424899113585 : True := trivial
theorem kk.tw5263716609816486143 : True := trivial
theorem kk.tw11268976720244058938 : True := trivial
theorem kk.tw3055445704432917182 : True := trivial
theorem kk.tw12780891992257141985 : True := trivial
theorem kk.tw3052840036077056186 : True := trivial
theorem kk.tw14647204899656163059 : True := trivial
theorem kk.tw4800877715442885392 : True := trivial
theorem kk.tw724841654841796272 : True := trivial
theorem kk.tw15829355443740684624 : True := trivial
theorem kk.tw15047636908035984926 : True := trivial
theorem kk.tw14512214485247976967 : True := trivial
theorem kk.tw13678485770977718116 : True := trivial
theorem kk.tw18338118984705319337 : True := trivial
theorem kk.tw10893028218216527359 : True := trivial
theorem kk.tw14902119260548095828 : True := trivial
theorem kk.tw10541333400390014068 : True := trivial
theorem kk.tw12523341774115222953 : True := trivial
theorem kk.tw12330494936450615831 : True := trivial
theorem kk.tw15967432846590161707 : True := trivial
theorem kk.tw15188990643987820500 : True := trivial
theorem kk.tw5435171375214183979 : True := trivial
theorem kk.tw13196523837793331441 : True := trivial
theorem kk.tw2757488383956197288 : True := trivial
theorem kk.tw17102510273510066434 : True := trivial
theorem kk.tw12308771330060210639 : True := trivial
theorem kk.tw12126379850256801907 : True := trivial
theorem kk.tw2419130540803113251 : True := trivial
theorem kk.tw15945517193047641650 : True := trivial
theorem kk.tw8005900009542968628 : True := trivial
theorem kk.tw2987881154939989291 : True := trivial
theorem kk.tw3304650000388384593 : True := trivial
theorem kk.tw6736696965187397606 : True := trivial
theorem kk.tw11932816056619295584 : True := trivial
theorem kk.tw8004466718551535146 : True := trivial
theorem kk.tw14662538704951597704 : True := trivial
theorem kk.tw2105774146590152029 : True := trivial
theorem kk.tw9677083635806618023 : True := trivial
theorem kk.tw17440208253911685596 : True := trivial
theorem kk.tw7128363423034029001 : True := trivial
theorem kk.tw3101496570923374864 : True := trivial
theorem kk.tw10250826755748815317 : True := trivial
theorem kk.tw7616432012183840613 : True := trivial
theorem kk.tw3757494025116279865 : True := trivial
theorem kk.tw3366377669246311972 : True := trivial
theorem kk.tw7762015826490352018 : True := trivial
theorem kk.tw17339035569747802761 : True := trivial
theorem kk.tw16976376668307584695 : True := trivial
theorem kk.tw12669825226813344626 : True := trivial
theorem kk.tw2201030661641648870 : True := trivial
theorem kk.tw8883988688519196425 : True := trivial
theorem kk.tw17229647477414478053 : True := trivial
theorem kk.tw4465267771565141091 : True := trivial
theorem kk.tw11372763863886244419 : True := trivial
theorem kk.tw8701126196454950638 : True := trivial
theorem kk.tw7240108584110925366 : True := trivial
theorem kk.tw14157652987600962922 : True := trivial
theorem kk.tw7272964899991781102 : True := trivial
theorem kk.tw6231207302624550426 : True := trivial
theorem kk.tw14020370339083517686 : True := trivial
theorem kk.tw2237495109485765669 : True := trivial
theorem kk.tw9425643629577389043 : True := trivial
theorem kk.tw3926350432196631461 : True := trivial
theorem kk.tw10541069132195622999 : True := trivial
theorem kk.tw9607191063700006442 : True := trivial
theorem kk.tw5174208504345352384 : True := trivial
theorem kk.tw913389467427728448 : True := trivial
theorem kk.tw6164341318605799965 : True := trivial
theorem kk.tw7566745051326753414 : True := trivial
theorem kk.tw17283275599614756173 : True := trivial
theorem kk.tw10368750587203738757 : True := trivial
theorem kk.tw13732590614149912058 : True := trivial
theorem kk.tw12949013904751073291 : True := trivial
theorem kk.tw16733053306133333590 : True := trivial
theorem kk.tw9798864325567984798 : True := trivial
theorem kk.tw11053667117900331130 : True := trivial
theorem kk.tw2798528538074026351 : True := trivial
theorem kk.tw15600429850963839951 : True := trivial
theorem kk.tw7498959167722358971 : True := trivial
theorem kk.tw2976456035470236902 : True := trivial
theorem kk.tw6936008062892936242 : True := trivial
theorem kk.tw11401317301339376433 : True := trivial
theorem kk.tw7680832758676630447 : True := trivial
theorem kk.tw2836654449460271108 : True := trivial
theorem kk.tw14931449252189763066 : True := trivial
theorem kk.tw13086748226576880024 : True := trivial
theorem kk.tw13627020152432488299 : True := trivial
theorem kk.tw11787213315927734112 : True := trivial
theorem kk.tw14185867886828653432 : True := trivial
theorem kk.tw13424607601714177295 : True := trivial
theorem kk.tw967316409382009692 : True := trivial
theorem kk.tw13845236038969215948 : True := trivial
theorem kk.tw1494843825625637416 : True := trivial
theorem kk.tw147367444348707959 : True := trivial
theorem kk.tw10879872538618257925 : True := trivial
theorem kk.tw6163380707034867995 : True := trivial
theorem kk.tw5359979294338489608 : True := trivial
theorem kk.tw8244994669103087445 : True := trivial
theorem kk.tw11958332892984289845 : True := trivial
theorem kk.tw99074007609432311 : True := trivial
theorem kk.tw11483880763211987988 : True := trivial
theorem kk.tw7349805922190551376 : True := trivial
theorem kk.tw3612411378963332619 : True := trivial
theorem kk.tw13769830967479810338 : True := trivial
theorem kk.tw6048037786729492411 : True := trivial
theorem kk.tw6542542339147194646 : True := trivial
theorem kk.tw14386298874499665080 : True := trivial
theorem kk.tw2019876464820199953 : True := trivial
theorem kk.tw12333535948939794723 : True := trivial
theorem kk.tw2250982486393341645 : True := trivial
theorem kk.tw17058151070199062055 : True := trivial
theorem kk.tw16222552937889023488 : True := trivial
theorem kk.tw9212793679850058914 : True := trivial
theorem kk.tw11838375278574429786 : True := trivial
theorem kk.tw8459543743214130408 : True := trivial
theorem kk.tw5486443261018716798 : True := trivial
theorem kk.tw8566161553426490323 : True := trivial
theorem kk.tw382680582809163525 : True := trivial
theorem kk.tw7903306689617194331 : True := trivial
theorem kk.tw16749660767980095338 : True := trivial
theorem kk.tw6241109632441046131 : True := trivial
theorem kk.tw10072754158444996443 : True := trivial
theorem kk.tw11159560906552315021 : True := trivial
theorem kk.tw3526001527099266268 : True := trivial
theorem kk.tw3301342535804516122 : True := trivial
theorem kk.tw15817807354386130181 : True := trivial
theorem kk.tw4400809885874896537 : True := trivial
theorem kk.tw6694191028193365211 : True := trivial
theorem kk.tw4197365108672816159 : True := trivial
theorem kk.tw6221505468060218076 : True := trivial
theorem kk.tw7577818823933832015 : True := trivial
theorem kk.tw2293947509701540930 : True := trivial
theorem kk.tw17457869316325561701 : True := trivial
theorem kk.tw2328812026107424482 : True := trivial
theorem kk.tw15912275230403929944 : True := trivial
theorem kk.tw14853348945848181249 : True := trivial
theorem kk.tw16180623660213708125 : True := trivial
theorem kk.tw14800713290059155513 : True := trivial
theorem kk.tw14831025210941743741 : True := trivial
theorem kk.tw374319813261529231 : True := trivial
theorem kk.tw17736186925304762844 : True := trivial
theorem kk.tw4881662936605875090 : True := trivial
theorem kk.tw1086877302761411651 : True := trivial
theorem kk.tw2350347709426679127 : True := trivial
theorem kk.tw908230144583697862 : True := trivial
theorem kk.tw17205663900745066429 : True := trivial
theorem kk.tw11164314434909669997 : True := trivial
theorem kk.tw11600443071067946163 : True := trivial
theorem kk.tw12149414054053902586 : True := trivial
theorem kk.tw394602864796734531 : True := trivial
theorem kk.tw13947065096607753540 : True := trivial
theorem kk.tw8998331139512749633 : True := trivial
theorem kk.tw2744470289151735402 : True := trivial
theorem kk.tw5101483042918040062 : True := trivial
theorem kk.tw3169849018053323645 : True := trivial
theorem kk.tw2994203001208773875 : True := trivial
theorem kk.tw6274301968420306427 : True := trivial
theorem kk.tw2989261241187748123 : True := trivial
theorem kk.tw10392742134943663110 : True := trivial
theorem kk.tw13622859013178793403 : True := trivial
theorem kk.tw468657622982226727 : True := trivial
theorem kk.tw5948686783932704534 : True := trivial
theorem kk.tw17350995337549492413 : True := trivial
theorem kk.tw2879614021091461542 : True := trivial
theorem kk.tw869289565000791083 : True := trivial
theorem kk.tw12119267435770731206 : True := trivial
theorem kk.tw11933647484985902077 : True := trivial
theorem kk.tw13769418525995259205 : True := trivial
theorem kk.tw15550183075057737637 : True := trivial
theorem kk.tw7547436943837683117 : True := trivial
theorem kk.tw15177282926377482188 : True := trivial
theorem kk.tw4149449306073629181 : True := trivial
theorem kk.tw16722582158909136666 : True := trivial
theorem kk.tw13936595642622631658 : True := trivial
theorem kk.tw2747013519066642959 : True := trivial
theorem kk.tw17711408889299173303 : True := trivial
theorem kk.tw11943617259352509522 : True := trivial
theorem kk.tw16131459463939372759 : True := trivial
theorem kk.tw379474965323551024 : True := trivial
theorem kk.tw14753593845299248474 : True := trivial
theorem kk.tw8610575041981334046 : True := trivial
theorem kk.tw11131696221606732256 : True := trivial
theorem kk.tw5076671275467492750 : True := trivial
theorem kk.tw7689096736164153732 : True := trivial
theorem kk.tw8456248515195476108 : True := trivial
theorem kk.tw12689025739522861139 : True := trivial
theorem kk.tw15595256412686340871 : True := trivial
theorem kk.tw18228834258305511152 : True := trivial
theorem kk.tw16744660863058244734 : True := trivial
theorem kk.tw18025799424821038701 : True := trivial
theorem kk.tw16456477325624664372 : True := trivial
theorem kk.tw12669527088767116308 : True := trivial
theorem kk.tw6252490977308598697 : True := trivial
theorem kk.tw4657283841058794403 : True := trivial
theorem kk.tw1865171925746131061 : True := trivial
theorem kk.tw5312394452547820626 : True := trivial
theorem kk.tw3717813088725009781 : True := trivial
theorem kk.tw6273331428456878117 : True := trivial
theorem kk.tw8487895734735812133 : True := trivial
theorem kk.tw8082718834031416616 : True := trivial
theorem kk.tw16954315563081435810 : True := trivial
theorem kk.tw8466839955307092083 : True := trivial
theorem kk.tw6286988639785039100 : True := trivial
theorem kk.tw3816727085949703680 : True := trivial
theorem kk.tw8427223868809198342 : True := trivial
theorem kk.tw13501082993018016344 : True := trivial
theorem kk.tw1482997052082921169 : True := trivial
theorem kk.tw12020882542606584688 : True := trivial
theorem kk.tw11938731876305925740 : True := trivial
theorem kk.tw15038529588084414444 : True := trivial
theorem kk.tw2658020778786070213 : True := trivial
theorem kk.tw15550428471955861033 : True := trivial
theorem kk.tw352770801165680287 : True := trivial
theorem kk.tw14505054682342607996 : True := trivial
theorem kk.tw8971630952998363676 : True := trivial
theorem kk.tw15112098562845654153 : True := trivial
theorem kk.tw12928654207523646336 : True := trivial
theorem kk.tw15074677486983812322 : True := trivial
theorem kk.tw3385906665277684015 : True := trivial
theorem kk.tw13904167851017110568 : True := trivial
theorem kk.tw13025315154799260908 : True := trivial
theorem kk.tw442924726586094180 : True := trivial
theorem kk.tw10779176317307145 : True := trivial
theorem kk.tw36289464738229130 : True := trivial
theorem kk.tw1526350465564360137 : True := trivial
theorem kk.tw12228762794493361855 : True := trivial
theorem kk.tw4935466450946333194 : True := trivial
theorem kk.tw12440075415346110980 : True := trivial
theorem kk.tw1774546650608646592 : True := trivial
theorem kk.tw7003018748191486011 : True := trivial
theorem kk.tw4504661339406895601 : True := trivial
theorem kk.tw3041068760119639812 : True := trivial
theorem kk.tw10590699930651017848 : True := trivial
theorem kk.tw14517246042398399846 : True := trivial
theorem kk.tw14324608075290581868 : True := trivial
theorem kk.tw571520006673243654 : True := trivial
theorem kk.tw11721433172649770802 : True := trivial
theorem kk.tw18344005021098700204 : True := trivial
theorem kk.tw11711581513667785744 : True := trivial
theorem kk.tw13921945573097776203 : True := trivial
theorem kk.tw7518198354560263144 : True := trivial
theorem kk.tw13076961726001143511 : True := trivial
theorem kk.tw9729341577142818910 : True := trivial
theorem kk.tw8887572708917792861 : True := trivial
theorem kk.tw14463421528107410498 : True := trivial
theorem kk.tw1745450386511642094 : True := trivial
theorem kk.tw9238701513156673781 : True := trivial
theorem kk.tw12581381097131932778 : True := trivial
theorem kk.tw3913780217160084439 : True := trivial
theorem kk.tw295039058260092896 : True := trivial
theorem kk.tw8718915485203233989 : True := trivial
theorem kk.tw9268399907163989348 : True := trivial
theorem kk.tw14889850848919903021 : True := trivial
theorem kk.tw666153743653479545 : True := trivial
theorem kk.tw12102717459764303896 : True := trivial
theorem kk.tw2222472521704415828 : True := trivial
theorem kk.tw10067889763129503296 : True := trivial
theorem kk.tw5374744004469954803 : True := trivial
theorem kk.tw7108192899035159292 : True := trivial
theorem kk.tw15739832157899563188 : True := trivial
theorem kk.tw2510830429353263740 : True := trivial
theorem kk.tw3365758868914755752 : True := trivial
theorem kk.tw87179074705881204 : True := trivial
theorem kk.tw2780894291284258827 : True := trivial
theorem kk.tw4185135793921048128 : True := trivial
theorem kk.tw12590864253424676581 : True := trivial
theorem kk.tw10557395679120706996 : True := trivial
theorem kk.tw11387159866151032168 : True := trivial
theorem kk.tw13011043002955436828 : True := trivial
theorem kk.tw3534863246966312129 : True := trivial
theorem kk.tw9814962388112251280 : True := trivial
theorem kk.tw15573788122713853287 : True := trivial
theorem kk.tw2084733984622316358 : True := trivial
theorem kk.tw13685281089892419847 : True := trivial
theorem kk.tw11936528032244380378 : True := trivial
theorem kk.tw11483176308300010796 : True := trivial
theorem kk.tw356760850531437799 : True := trivial
theorem kk.tw7800785319364837918 : True := trivial
theorem kk.tw2865396426287491500 : True := trivial
theorem kk.tw15862690629206623961 : True := trivial
theorem kk.tw12220006987146290743 : True := trivial
theorem kk.tw12043526394785700178 : True := trivial
theorem kk.tw3392754605356700087 : True := trivial
theorem kk.tw17730728227048859604 : True := trivial
theorem kk.tw14308360353856834792 : True := trivial
theorem kk.tw14620347605810586255 : True := trivial
theorem kk.tw14948659206629245546 : True := trivial
theorem kk.tw9910720740428646637 : True := trivial
theorem kk.tw14694940322497739489 : True := trivial
theorem kk.tw15293432014663192776 : True := trivial
theorem kk.tw2382113863775865898 : True := trivial
theorem kk.tw7853311903280383764 : True := trivial
theorem kk.tw9319108102744105917 : True := trivial
theorem kk.tw17440362639355599113 : True := trivial
theorem kk.tw7734776535682434612 : True := trivial
theorem kk.tw9958555673388934997 : True := trivial
theorem kk.tw15712950053225544849 : True := trivial
theorem kk.tw17205197646837958483 : True := trivial
theorem kk.tw11263533315469680091 : True := trivial
theorem kk.tw1040545343858868111 : True := trivial
theorem kk.tw1942766697096806031 : True := trivial
theorem kk.tw9441101618551894386 : True := trivial
theorem kk.tw11140553374446972264 : True := trivial
theorem kk.tw17254764581152259629 : True := trivial
theorem kk.tw9097667886939623202 : True := trivial
theorem kk.tw16350245500949598467 : True := trivial
theorem kk.tw10306554439589316059 : True := trivial
theorem kk.tw3687520334628890567 : True := trivial
theorem kk.tw17654995543208575920 : True := trivial
theorem kk.tw12291749812797015477 : True := trivial
theorem kk.tw2396476124323130486 : True := trivial
theorem kk.tw11604771799540358846 : True := trivial
theorem kk.tw16482130386223875508 : True := trivial
theorem kk.tw10046816082676081571 : True := trivial
theorem kk.tw18292141643847090595 : True := trivial
theorem kk.tw16985193302465404031 : True := trivial
theorem kk.tw8512757137988726131 : True := trivial
theorem kk.tw3090049601679710693 : True := trivial
theorem kk.tw12780500284089793188 : True := trivial
theorem kk.tw6195992633751195379 : True := trivial
theorem kk.tw11319715642914258144 : True := trivial
theorem kk.tw15031297746916609786 : True := trivial
theorem kk.tw6919384955820579438 : True := trivial
theorem kk.tw8146763928529185757 : True := trivial
theorem kk.tw13698997973102352845 : True := trivial
theorem kk.tw616358614577693040 : True := trivial
theorem kk.tw5615779288351215718 : True := trivial
theorem kk.tw9907184353901062220 : True := trivial
theorem kk.tw313175743667262370 : True := trivial
theorem kk.tw4678300841714673943 : True := trivial
theorem kk.tw17540235748431748271 : True := trivial
theorem kk.tw6304035774604928805 : True := trivial
theorem kk.tw13451956947227214663 : True := trivial
theorem kk.tw2313368103309195455 : True := trivial
theorem kk.tw18118340807913144 : True := trivial
theorem kk.tw11669071931244219041 : True := trivial
theorem kk.tw5534007814062795472 : True := trivial
theorem kk.tw17030221787885726079 : True := trivial
theorem kk.tw16052688254634022422 : True := trivial
theorem kk.tw6058628018589764008 : True := trivial
theorem kk.tw6713479838674445302 : True := trivial
theorem kk.tw3749679944753235230 : True := trivial
theorem kk.tw3056791350997924737 : True := trivial
theorem kk.tw2600316107142592314 : True := trivial
theorem kk.tw10443281352126697996 : True := trivial
theorem kk.tw1961232595643376861 : True := trivial
theorem kk.tw16485348548303999645 : True := trivial
theorem kk.tw7948828086562434811 : True := trivial
theorem kk.tw14760461643933293763 : True := trivial
theorem kk.tw4890559543003983809 : True := trivial
theorem kk.tw12497683435456105434 : True := trivial
theorem kk.tw825306899719654289 : True := trivial
theorem kk.tw9080698689423049753 : True := trivial
theorem kk.tw18324337742224535864 : True := trivial
theorem kk.tw6636356423183252481 : True := trivial
theorem kk.tw16224132395931972990 : True := trivial
theorem kk.tw5519348856232248771 : True := trivial
theorem kk.tw11531534504878645559 : True := trivial
theorem kk.tw17138597202542914051 : True := trivial
theorem kk.tw10529715606660479798 : True := trivial
theorem kk.tw11500471035095599045 : True := trivial
theorem kk.tw15371711910322410065 : True := trivial
theorem kk.tw15965876854577514488 : True := trivial
theorem kk.tw691300565363800570 : True := trivial
theorem kk.tw7690190860974300189 : True := trivial
theorem kk.tw3514310230702064160 : True := trivial
theorem kk.tw1976091154863198775 : True := trivial
theorem kk.tw16363256218953196788 : True := trivial
theorem kk.tw13100379673663965243 : True := trivial
theorem kk.tw11308412326319996110 : True := trivial
theorem kk.tw10857302469334342126 : True := trivial
theorem kk.tw12776587224693721799 : True := trivial
theorem kk.tw2421861537941194544 : True := trivial
theorem kk.tw4245569512620029441 : True := trivial
theorem kk.tw14104269021580711538 : True := trivial
theorem kk.tw17686708117466690184 : True := trivial
theorem kk.tw5907293477330485311 : True := trivial
theorem kk.tw5205917481681144114 : True := trivial
theorem kk.tw14821855074665242074 : True := trivial
theorem kk.tw5486680944951995444 : True := trivial
theorem kk.tw9101535994781965950 : True := trivial
theorem kk.tw8366530756212374006 : True := trivial
theorem kk.tw212657253436104034 : True := trivial
theorem kk.tw16721670504777885821 : True := trivial
theorem kk.tw14510620159361072862 : True := trivial
theorem kk.tw15086478779196736113 : True := trivial
theorem kk.tw17858627174436854850 : True := trivial
theorem kk.tw954884174450118495 : True := trivial
theorem kk.tw2667612333984572288 : True := trivial
theorem kk.tw3374969376726130455 : True := trivial
theorem kk.tw1643462734303844462 : True := trivial
theorem kk.tw3912809922341175752 : True := trivial
theorem kk.tw18413963275264558424 : True := trivial
theorem kk.tw6485887985946856715 : True := trivial
theorem kk.tw12984378277760034332 : True := trivial
theorem kk.tw12154290932044156134 : True := trivial
theorem kk.tw2460245132175940489 : True := trivial
theorem kk.tw13103531240980890117 : True := trivial
theorem kk.tw17346500316351443659 : True := trivial
theorem kk.tw7248056425278784963 : True := trivial
theorem kk.tw10884938891256851753 : True := trivial
theorem kk.tw7825701711564146507 : True := trivial
theorem kk.tw6571986008139497034 : True := trivial
theorem kk.tw6540763066713577241 : True := trivial
theorem kk.tw7743629197313566582 : True := trivial
theorem kk.tw10191597371112772844 : True := trivial
theorem kk.tw11724436230424535072 : True := trivial
theorem kk.tw5928120182640816823 : True := trivial
theorem kk.tw10864308180630610914 : True := trivial
theorem kk.tw16134736253470229680 : True := trivial
theorem kk.tw12681308670946053249 : True := trivial
theorem kk.tw7577228000196398310 : True := trivial
theorem kk.tw16229016017198322288 : True := trivial
theorem kk.tw2839602723866498423 : True := trivial
theorem kk.tw14305772461330842285 : True := trivial
theorem kk.tw16212480438701370073 : True := trivial
theorem kk.tw11212356625418711039 : True := trivial
theorem kk.tw11920359197255406026 : True := trivial
theorem kk.tw4488285969342129214 : True := trivial
theorem kk.tw16305135200865299866 : True := trivial
theorem kk.tw10397816365827924076 : True := trivial
theorem kk.tw2638763650709918202 : True := trivial
theorem kk.tw16806375118706243538 : True := trivial
theorem kk.tw13176042808924790746 : True := trivial
theorem kk.tw1147909908762660590 : True := trivial
theorem kk.tw17459777718524111417 : True := trivial
theorem kk.tw3315042376452426062 : True := trivial
theorem kk.tw3659196999350993230 : True := trivial
theorem kk.tw6529709330116168941 : True := trivial
theorem kk.tw1373554148816366787 : True := trivial
theorem kk.tw1598419223069992482 : True := trivial
theorem kk.tw14789901730720444730 : True := trivial
theorem kk.tw8029334609366522153 : True := trivial
theorem kk.tw9141744038435700693 : True := trivial
theorem kk.tw5865491768501484841 : True := trivial
theorem kk.tw11018157024784474988 : True := trivial
theorem kk.tw483321010829271774 : True := trivial
theorem kk.tw9093862988139412861 : True := trivial
theorem kk.tw15483548373033693276 : True := trivial
theorem kk.tw11333678892576823281 : True := trivial
theorem kk.tw3693724617441767814 : True := trivial
theorem kk.tw8482670304437882013 : True := trivial
theorem kk.tw11387774325170519554 : True := trivial
theorem kk.tw11167658564877516404 : True := trivial
theorem kk.tw17761637150807516509 : True := trivial
theorem kk.tw17515158863705018846 : True := trivial
theorem kk.tw14164416852105305769 : True := trivial
theorem kk.tw16019948517053374777 : True := trivial
theorem kk.tw1827952003269327019 : True := trivial
theorem kk.tw7538958485474755599 : True := trivial
theorem kk.tw14082154619777711760 : True := trivial
theorem kk.tw17358645388245657213 : True := trivial
theorem kk.tw16682212647753057543 : True := trivial
theorem kk.tw15388147078259172824 : True := trivial
theorem kk.tw11387130332726546115 : True := trivial
theorem kk.tw13563032380093753235 : True := trivial
theorem kk.tw12010141601204420037 : True := trivial
theorem kk.tw6392735659424652984 : True := trivial
theorem kk.tw14925816658550939934 : True := trivial
theorem kk.tw1259737942167133422 : True := trivial
theorem kk.tw2878761789820861490 : True := trivial
theorem kk.tw1746425717895981731 : True := trivial
theorem kk.tw1007805626446517571 : True := trivial
theorem kk.tw17822984956010961027 : True := trivial
theorem kk.tw8357056324862531450 : True := trivial
theorem kk.tw16441179552463716775 : True := trivial
theorem kk.tw11842767309078207866 : True := trivial
theorem kk.tw10386343422165588757 : True := trivial
theorem kk.tw917861110699510024 : True := trivial
theorem kk.tw10356971505625326377 : True := trivial
theorem kk.tw1381332317733700974 : True := trivial
theorem kk.tw14411072407440963916 : True := trivial
theorem kk.tw8132684319539981038 : True := trivial
theorem kk.tw18116545250853164410 : True := trivial
theorem kk.tw13305110012488227978 : True := trivial
theorem kk.tw9519297279423311392 : True := trivial
theorem kk.tw6581848776551412277 : True := trivial
theorem kk.tw9588125582773493292 : True := trivial
theorem kk.tw16959710206130805716 : True := trivial
theorem kk.tw5646679348581338231 : True := trivial
theorem kk.tw10962305929581540642 : True := trivial
theorem kk.tw16044450139765643232 : True := trivial
theorem kk.tw9709562020786389942 : True := trivial
theorem kk.tw4468581782798141359 : True := trivial
theorem kk.tw9872355106265788922 : True := trivial
theorem kk.tw5796513768294710319 : True := trivial
theorem kk.tw12062895790811326462 : True := trivial
theorem kk.tw8035282281678169938 : True := trivial
theorem kk.tw2151150724366096940 : True := trivial
theorem kk.tw9072369790518067799 : True := trivial
theorem kk.tw13742524345877587332 : True := trivial
theorem kk.tw9366057000909961492 : True := trivial
theorem kk.tw7611543895947930238 : True := trivial
theorem kk.tw18077901081527387268 : True := trivial
theorem kk.tw17258364339133229720 : True := trivial
theorem kk.tw15586371539468776316 : True := trivial
theorem kk.tw16682488657291389005 : True := trivial
theorem kk.tw1141207533041129348 : True := trivial
theorem kk.tw12974576690056366693 : True := trivial
theorem kk.tw1617604683602354935 : True := trivial
theorem kk.tw10900439565799485160 : True := trivial
theorem kk.tw11221283173151128433 : True := trivial
theorem kk.tw1878581345618294535 : True := trivial
theorem kk.tw4257116923067884031 : True := trivial
theorem kk.tw2977906296959705744 : True := trivial
theorem kk.tw2602538250538386958 : True := trivial
theorem kk.tw14098951355781194090 : True := trivial
theorem kk.tw2515704212340525463 : True := trivial
theorem kk.tw13445992280055278928 : True := trivial
theorem kk.tw9533327234699000623 : True := trivial
theorem kk.tw16303543087285707340 : True := trivial
theorem kk.tw17004090034829813949 : True := trivial
theorem kk.tw8076355339445158974 : True := trivial
theorem kk.tw10935516053651590546 : True := trivial
theorem kk.tw8182214286695520241 : True := trivial
theorem kk.tw3111588352078807659 : True := trivial
theorem kk.tw7266088590792449988 : True := trivial
theorem kk.tw10394792918591404828 : True := trivial
theorem kk.tw12447428790165115603 : True := trivial
theorem kk.tw502433148819607687 : True := trivial
theorem kk.tw13850935529321775738 : True := trivial
theorem kk.tw8267649442576546803 : True := trivial
theorem kk.tw217368247544543929 : True := trivial
theorem kk.tw14018193634797561868 : True := trivial
theorem kk.tw4100289763094269413 : True := trivial
theorem kk.tw6787885747620383607 : True := trivial
theorem kk.tw9588141398107043632 : True := trivial
theorem kk.tw18290318761553622741 : True := trivial
theorem kk.tw4862491831310157578 : True := trivial
theorem kk.tw17422957301504063048 : True := trivial
theorem kk.tw10338378342407295704 : True := trivial
theorem kk.tw1275998622208991415 : True := trivial
theorem kk.tw11719210457622343556 : True := trivial
theorem kk.tw7847308564410845095 : True := trivial
theorem kk.tw10036150001926687828 : True := trivial
theorem kk.tw8776071722040346062 : True := trivial
theorem kk.tw4824330671419354931 : True := trivial
theorem kk.tw5310001963432472501 : True := trivial
theorem kk.tw13847845609845709029 : True := trivial
theorem kk.tw16328231179861700986 : True := trivial
theorem kk.tw11911154218247297963 : True := trivial
theorem kk.tw10092810839287708135 : True := trivial
theorem kk.tw5298514183345239103 : True := trivial
theorem kk.tw14242519845063897752 : True := trivial
theorem kk.tw10879318723743800334 : True := trivial
theorem kk.tw12519389447115124343 : True := trivial
theorem kk.tw16597679821980278319 : True := trivial
theorem kk.tw16651062714433721370 : True := trivial
theorem kk.tw1447399711205594644 : True := trivial
theorem kk.tw9980206794929247945 : True := trivial
theorem kk.tw729890045593379388 : True := trivial
theorem kk.tw9975441282038390083 : True := trivial
theorem kk.tw10103888791729687597 : True := trivial
theorem kk.tw18412263485421781792 : True := trivial
theorem kk.tw9189815603832402880 : True := trivial
theorem kk.tw12399449663342919861 : True := trivial
theorem kk.tw13694740140192979997 : True := trivial
theorem kk.tw9371985861842682946 : True := trivial
theorem kk.tw8331112364369708256 : True := trivial
theorem kk.tw13351552438846953476 : True := trivial
theorem kk.tw18107570928508642392 : True := trivial
theorem kk.tw7204533929567276133 : True := trivial
theorem kk.tw10679637444081322678 : True := trivial
theorem kk.tw10289853567341175173 : True := trivial
theorem kk.tw18179698369238896191 : True := trivial
theorem kk.tw686369002017135651 : True := trivial
theorem kk.tw9876189402230510741 : True := trivial
theorem kk.tw4019637248398007499 : True := trivial
theorem kk.tw14040883835066402878 : True := trivial
theorem kk.tw12197353808885079521 : True := trivial
theorem kk.tw4462956809643558821 : True := trivial
theorem kk.tw7256079266811529227 : True := trivial
theorem kk.tw9573931954078803928 : True := trivial
theorem kk.tw11132409774619751707 : True := trivial
theorem kk.tw843795012160658719 : True := trivial
theorem kk.tw7026332561269926067 : True := trivial
theorem kk.tw7723004706133907951 : True := trivial
theorem kk.tw14607392979140391367 : True := trivial
theorem kk.tw7225744978961006056 : True := trivial
theorem kk.tw9468862780092979377 : True := trivial
/-- the law's def ends at once; all else as it stands: its top leaves the same objects, but the law's own -/
def soon : PySem.Stmt → PySem.Stmt
  | .FunctionDef n a b d r t sc ts bi po => if n == Str.ofString "law" then .FunctionDef n a (.Return (some (.Constant (.bool true) 0 ⟨377, 4, 377, 15⟩)) ⟨377, 4, 377, 15⟩ :: b) d r t sc ts bi po else .FunctionDef n a b d r t sc ts bi po
  | s => s
def prog2 : Program := { PySem.Challenge.pw_xm0761_01 with main := { PySem.Challenge.pw_xm0761_01.main with body := PySem.Challenge.pw_xm0761_01.main.body.map soon } }
def row2 : OpenLaw := { PySem.Challenge.rw_xm0761_01 with prog := prog2 }
set_option Elab.async true in
set_option maxRecDepth 100000 in
set_option maxHeartbeats 8000000 in
theorem kk : row2.Holds := by open_k
/-- a list without its last item -/
inductive Ini {α : Type} : List α → List α → Prop
  | last (x : α) : Ini [x] []
  | more (x : α) {l m : List α} : Ini l m → Ini (x :: l) (x :: m)
set_option maxRecDepth 100000 in
noncomputable def K1 (P : Params) : Frag := (fun (l : Frag) (_ : Ini (Mine.kk.heap_1_39 P) l) => l) _ (by delta Mine.kk.heap_1_39; repeat (first | exact Ini.last _ | apply Ini.more))
noncomputable abbrev K1as : List Addr := [2, 3, 15, 17, 18, 20, 21, 22, 24, 25, 27, 28, 29, 31, 32, 34, 35, 36, 38, 39, 41, 42, 43, 50, 52, 53, 55, 56, 57, 58, 59, 60, 63, 70, 71, 72, 75, 82, 84, 85, 87, 88, 89, 90, 91, 94, 95, 96, 97, 98, 101, 102, 103, 105, 106, 108, 109, 117, 119, 120, 122, 123, 124, 126, 127, 129, 130, 131, 133, 134, 136, 137, 138, 140, 141, 143, 144, 145, 147, 148, 150, 151, 152, 154, 155, 157, 158, 159, 160, 161, 162, 163, 173, 175, 176, 178, 179, 180, 182, 183, 185, 186, 187, 189, 190, 192, 193, 194, 196, 197, 199, 200, 201, 203, 204, 206, 207, 208, 210, 211, 213, 214, 215, 217, 218, 220, 221, 222, 224, 225, 227, 228, 229, 231, 232, 234, 235, 236, 238, 239, 241, 242, 243, 245, 246, 248, 249, 250, 252, 253, 255, 256, 257, 259, 260, 262, 263, 264, 265, 266, 267, 268, 271, 273, 274, 276, 277, 285, 287, 288, 290, 291, 292, 294, 295, 297, 298, 299, 301, 302, 304, 305, 306, 308, 309, 311, 312, 313, 315, 316, 318, 319, 320, 322, 323, 325, 326, 327, 329, 330, 332, 333, 334, 336, 337, 339, 340, 341, 343, 344, 346, 347, 348, 350, 351, 353, 354, 355, 357, 358, 360, 361, 362, 364, 365, 367, 368, 369, 371, 372, 374, 375, 376, 378, 379, 381, 382, 383, 385, 386, 388, 389, 390, 392, 393, 395, 396, 397, 399, 400, 402, 403, 404, 406, 407, 409, 410, 411, 412, 413, 414, 415, 418, 420, 421, 423, 424, 425, 427, 428, 430, 431, 432, 434, 435, 437, 438, 439, 441, 442, 444, 445, 446, 448, 449, 451, 452, 453, 455, 456, 458, 459, 460, 462, 463, 465, 466, 467, 469, 470, 472, 473, 474, 476, 477, 479, 480, 481, 483, 484, 486, 487, 488, 490, 491, 493]
end Mine
end
section
open PySem PySem.W PySem.Calls PyProof.Rows
set_option maxRecDepth 100000
namespace Mine
local macro_rules | `(tactic| walk_at $s:str) => do
  let t := Lean.Syntax.mkStrLit ("~" ++ s.getString)
  `(tactic| k_extra $t)
local macro_rules | `(tactic| k_all) => `(tactic| k_extra "~k_all")
local macro_rules | `(tactic| k_upd) => `(tactic| k_extra "~k_upd")
local macro_rules | `(tactic| k_mem) => `(tactic| k_extra "~k_mem")
local macro_rules | `(tactic| k_in) => `(tactic| k_extra "~k_in")
local macro_rules | `(tactic| k_room) => `(tactic| k_extra "~k_room")
local macro_rules | `(tactic| k_inst) => `(tactic| k_extra "~k_inst")
local macro_rules | `(tactic| k_ne) => `(tactic| k_extra "~k_ne")
local macro_rules | `(tactic| mul_fits) => `(tactic| k_extra "~mul_fits")
local macro_rules | `(tactic| size_fits) => `(tactic| k_extra "~size_fits")
section
open PySem PySem.W PySem.Calls PyProof.Rows
theorem room0 {a b d n : Nat} (h : a + d < n) (k : b ≤ d) : a + b < n := by omega
theorem room1 {a b c d n : Nat} (h : a + d < n) (k : b + c ≤ d) : a + b + c < n := by omega
theorem room2 {a b c e d n : Nat} (h : a + d < n) (k : b + c + e ≤ d) : a + b + c + e < n := by omega
theorem le3_of {i n : Nat} (h : i < n) (k : n < 4) : i ≤ 3 := by omega
theorem le1000_of {i n : Nat} (h : i < n) (k : n < 4) : i ≤ 1000 := by omega
theorem le_of4 {n : Nat} (k : n < 4) : n ≤ 1000 := by omega
theorem ne_of_allLt {d : Addr} {l : List (Addr × Obj)} (h : AllLt d l) : ∀ p ∈ l, p.1 ≠ d := fun p hp => Nat.ne_of_lt (ktn_ltOf h p hp)
theorem fmod_b (x : Int) {t : Int} (h : 0 < t) : 0 ≤ x.fmod t ∧ x.fmod t < t := ⟨Int.fmod_nonneg_of_pos x h, Int.fmod_lt_of_pos x h⟩
theorem fdiv_b {x t : Int} (hx : 0 ≤ x) (h : 0 < t) : 0 ≤ x.fdiv t := Int.fdiv_nonneg hx (Int.le_of_lt h)
theorem mulOk_fmod (z b : Int) : IntMulOk (z.fmod 2147483647) b := IntMulOk.of_left (PySem.intBits_le_iff.mpr (by have := fmod_b z (t := 2147483647) (by decide); omega))
end
section
open PySem PySem.W PySem.Calls PyProof.Rows Builtin Builtin.ObjectAttr

noncomputable def excMro : List Value := [.ref 91, .ref 72, .ref 59, .type "Exception", .type "BaseException", .type "object"]
theorem exc_pass (self : Value) : refuseLoop self "__setattr__" excMro = pure () := by
  unfold excMro
  rw [refuseLoop_ref, refuseLoop_ref, refuseLoop_ref]
  kernel_rfl

section
variable {prog : Program} {w : World} {A : Around} {K : Frag} {C x dx L : Addr} {s : Shared} {h₀ : Heap} {m : Str → Option Value} {R : Result → Shared → Prop}

theorem osa_openE {ox : Obj} {od : Option Obj} {name : Str} {tk : Tok} {v : Value} (X : K.In s.heap) (I : InstAt s.heap x ox C od)
    (hp : (clsIn K C).map (·.mro) = some excMro) (ht : findIn K (.ref C) name = some none)
    (h : wpAny (model prog w) A.in1 (storeInOwnDict (.ref x) (.ref C) (.str name tk) name v false)
      (fun fin s' => match fin with | .done f => R (.ok f) s' | .again c' => c'.quiet = true ∧ codeAny (model prog w) A c' R s') (fun e s' => R (.error e) s') s) :
    codeAny (model prog w) A (.call (.builtin "object.__setattr__") ⟨[.ref x, .str name tk, v], []⟩) R s := by
  have SF := PySem.F.store_object
  obtain ⟨cd, hc, ho⟩ := Option.map_eq_some_iff.mp hp
  have sub : Looks (model prog w) s.heap (isInstance (.ref x) (.type "object")) true := I.type.andThen (looks_mroIn X (by unfold mroIn; rw [hc, Option.bind_some, ho]; rfl))
  refine codeAny_call_builtin SF.slot.plain SF.entry (@check_slot (model prog w) _ _ s "object.__setattr__" "object" "__setattr__" (.ref x) [.str name tk, v] [] _ SF.kind SF.split sub (SF.args (.ref x) (.str name tk) v) ?_)
  have hm : Looks (model prog w) s.heap (mroOf (.ref C)) cd.mro := (looks_clsIn X hc).andThen .now
  rw [osa_eq, refuse_eq]
  refine wpAny_bind (wpAny_bind (I.type.here (wpAny_bind (hm.here ?_))))
  rw [ho, exc_pass]
  refine wpAny_pure (wpAny_bind (I.type.here (wpAny_bind ((looks_findIn X ht).here (wpAny_bind ((show Looks (model prog w) s.heap (storeTaker? none) none from .now).here ?_))))))
  exact h

/-- a store into the dict that the exception has already -/
theorem osaE_old {ox od od' : Obj} {name : Str} {tk : Tok} {v : Value} {pre post : List (Addr × Obj)} {es : List DictEntry} {n : Nat} (F : Fr h₀ L s.heap m) (N : News h₀ L s.heap (pre ++ (dx, od) :: post)) (X : K.In s.heap)
    (I : InstAt s.heap x ox C (some od)) (hd : ox.dict = some dx) (hp : (clsIn K C).map (·.mro) = some excMro) (ht : findIn K (.ref C) name = some none) (hh : (clsIn K C).any (·.hasDict) = true)
    (hl : (lookIn name od).isSome = true) (h1 : ∀ p ∈ pre, p.1 ≠ dx) (h2 : ∀ p ∈ post, p.1 ≠ dx)
    (e : Obj.putName name (PyData.keyHash w.params name) (.str name s.toks) v od = od') (e' : od'.data = .dict es.toArray n) (hz : es.length ≤ 1000)
    (h : ∀ h', Fr h₀ L h' m → News h₀ L h' (pre ++ (dx, od') :: post) → R (.ok (.ret .none)) { s with heap := h', toks := s.toks + 1 }) :
    codeAny (model prog w) A (.call (.builtin "object.__setattr__") ⟨[.ref x, .str name tk, v], []⟩) R s := by
  refine osa_openE X I hp ht ?_
  obtain ⟨cd, hc, hd'⟩ := any_some hh
  obtain ⟨U1, U2⟩ := news_upd (f := Obj.putName name (PyData.keyHash w.params name) (.str name s.toks) v) F N h1 h2 e (by obtain ⟨_, _, dd, _⟩ := od'; cases e'; rfl)
  have D := (N (dx, od) (by simp)).1
  have D' := (U2 (dx, od') (by simp)).1
  obtain ⟨hx, hcl, hn, -⟩ := I
  obtain ⟨oc, odi, oda, osl⟩ := ox
  dsimp only at hcl hd
  subst hcl hd
  refine wpAny_bind (wpAny_pure (wpAny_bind (wpAny_bind (wpAny_loadPart hx (wpAny_bind ((looks_clsIn X hc).here ?_))))))
  rw [hd']
  refine wpAny_pure (a := some dx) (wpAny_bind (wpAny_pure (wpAny_bind ?_)))
  unfold nsSet
  refine wpAny_bind (wpAny_bind (wpAny_askSetting (wpAny_pure (wpAny_bind (wpAny_mkText (wpAny_bind (wpAny_loadPart D ?_)))))))
  unfold lookIn at hl
  split at hl
  · rename_i es₀ n₀ q
    rw [q]
    dsimp only
    have c : (!es₀.any (·.key.isStr name) && es₀.any (·.refKey)) = false := by
      rw [← Array.any_toList, ← Array.any_toList]
      split at hl
      · rename_i en he
        rw [List.any_eq_true.mpr ⟨en, List.mem_of_find?_eq_some he, List.find?_some he⟩]; rfl
      · split at hl
        · cases hl
        · rename_i z; rw [Bool.not_eq_true] at z; rw [z, Bool.and_false]
    rw [aRefKeyMayBeTheName_at, c]
    refine wpAny_updatePart D ?_
    refine wpAny_bind (wpAny_lookBehind D' (by rw [e']; exact pastItsLine_dict (by rw [List.size_toArray, sizeLine_eq]; omega)) ?_)
    exact wpAny_pure (h _ U1 U2)
  · cases hl

theorem setE_old {E : Value → Shared → Prop} {Q : Unit → Shared → Prop} {ox : Obj} {es es' : List DictEntry} {n n' : Nat} {name : Str} {v : Value} {news news' : List (Addr × Obj)} (F : Fr h₀ L s.heap m) (X₀ : K.In h₀) (N : News h₀ L s.heap news) (I : InstAt s.heap x ox C (some (dictOf es n))) (hd : ox.dict = some dx)
    (hs : findIn K (.ref C) "__setattr__" = some (some (.builtin "object.__setattr__"))) {cd : ClassData} (hc : clsIn K C = some cd) (hm : cd.mro = excMro) (ht : findIn K (.ref C) name = some none) (hh : hasDictIn K C = true) (hl : (getL name es).isSome = true)
    (e : (putL name (PyData.keyHash w.params name) (.str name (s.toks + 1)) v es, putN name es n) = (es', n')) (U : Upd dx (dictOf es n) (dictOf es' n') news news') (hz : es'.length ≤ 1000)
    (h : ∀ h', Fr h₀ L h' m → News h₀ L h' news' → Q () { s with heap := h', toks := s.toks + 2 }) :
    wpAny (model prog w) A (setAttr (.ref x) name v) Q E s := by
  obtain ⟨pre, post, rfl, rfl, a, b⟩ := U.split
  obtain ⟨e1, e2⟩ := Prod.mk.inj e
  exact set_plain (X₀.keeps F.keep) I hs (osaE_old (s := { s with toks := s.toks + 1 }) F N (X₀.keeps F.keep) I hd (by rw [hc, ← hm]; rfl) ht hh hl a b (by rw [putName_dict, e1, e2]) rfl hz fun h' F' N' => h h' F' N')

noncomputable abbrev excO (C t : Addr) (d : Option Addr) : Obj := { cls := .ref C, dict := d, data := .fields #[.ref t, .none, .none, .none, .bool false, .none] }
/-- the first store: the dict is made -/
theorem osaE_new {od' : Obj} {t : Addr} {name : Str} {tk : Tok} {v : Value} {rest : List (Addr × Obj)} {es : List DictEntry} {n : Nat} (F : Fr h₀ L s.heap m) (N : News h₀ L s.heap ((x, excO C t none) :: rest)) (X : K.In s.heap)
    (hp : (clsIn K C).map (·.mro) = some excMro) (ht : findIn K (.ref C) name = some none) (hh : (clsIn K C).any (·.hasDict) = true)
    (h2 : ∀ p ∈ rest, p.1 ≠ x)
    (e : Obj.putName name (PyData.keyHash w.params name) (.str name s.toks) v emptyDict = od') (e' : od'.data = .dict es.toArray n) (hz : es.length ≤ 1000)
    (h : ∀ h' dx, Fr h₀ L h' m → News h₀ L h' ((dx, od') :: (x, excO C t (some dx)) :: rest) → (∀ p ∈ rest, p.1 < dx) → x < dx → R (.ok (.ret .none)) { s with heap := h', toks := s.toks + 1 }) :
    codeAny (model prog w) A (.call (.builtin "object.__setattr__") ⟨[.ref x, .str name tk, v], []⟩) R s := by
  have hx := (N _ (.head _)).1
  have I : InstAt s.heap x (excO C t none) C none := ⟨hx, rfl, rfl, trivial⟩
  refine osa_openE X I hp ht ?_
  obtain ⟨cd, hc, hd'⟩ := any_some hh
  have hlt : ∀ p ∈ ((x, excO C t none) :: rest), p.1 < s.heap.objs.size := fun p hp => Heap.lt_size (N p hp).1
  have hxl : x < s.heap.objs.size := hlt _ (.head _)
  obtain ⟨F2, N2⟩ := news_upd (pre := [(s.heap.objs.size, emptyDict)]) (post := rest) (d := x) (o := excO C t none) (o' := excO C t (some s.heap.objs.size)) (f := fun o => { o with dict := some s.heap.objs.size }) (F.push emptyDict) (N.push F emptyDict)
    (fun p hp => by rw [List.mem_singleton.mp hp]; exact Nat.ne_of_gt hxl) h2 rfl rfl
  obtain ⟨F3, N3⟩ := news_upd (pre := []) (post := (x, excO C t (some s.heap.objs.size)) :: rest) (d := s.heap.objs.size) (o := emptyDict) (o' := od') (f := Obj.putName name (PyData.keyHash w.params name) (.str name s.toks) v) F2 N2 (fun p hp => nomatch hp)
    (fun p hp => by
      rcases List.mem_cons.mp hp with rfl | hp
      · exact Nat.ne_of_lt hxl
      · exact Nat.ne_of_lt (hlt p (.tail _ hp))) e (by obtain ⟨_, _, dd, _⟩ := od'; cases e'; rfl)
  have D := (N2 _ (.head _)).1
  have D' := (N3 _ (.head _)).1
  refine wpAny_bind (wpAny_pure (wpAny_bind (wpAny_bind (wpAny_loadPart hx (wpAny_bind ((looks_clsIn X hc).here ?_))))))
  rw [hd']
  show wpAny _ _ ((alloc emptyDict >>= fun d => update x (fun o => { o with dict := some d }) >>= fun _ => pure (some d))) _ _ _
  refine wpAny_bind (wpAny_alloc (wpAny_bind (wpAny_update (Heap.get?_push_of_some _ hx) (wpAny_pure ?_))))
  refine wpAny_bind (wpAny_pure (wpAny_bind ?_))
  unfold nsSet
  refine wpAny_bind (wpAny_bind (wpAny_askSetting (wpAny_pure (wpAny_bind (wpAny_mkText (wpAny_bind (wpAny_loadPart D ?_)))))))
  dsimp only
  have c : (!(#[] : Array DictEntry).any (·.key.isStr name) && (#[] : Array DictEntry).any (·.refKey)) = false := by simp
  rw [aRefKeyMayBeTheName_at, c]
  refine wpAny_updatePart D ?_
  refine wpAny_bind (wpAny_lookBehind D' (by rw [e']; exact pastItsLine_dict (by rw [List.size_toArray, sizeLine_eq]; omega)) ?_)
  exact wpAny_pure (h _ _ F3 N3 (fun p hp => hlt p (.tail _ hp)) hxl)

theorem setE_new {E : Value → Shared → Prop} {Q : Unit → Shared → Prop} {t : Addr} {es' : List DictEntry} {n' : Nat} {name : Str} {v : Value} {rest : List (Addr × Obj)} (F : Fr h₀ L s.heap m) (X₀ : K.In h₀) (N : News h₀ L s.heap ((x, excO C t none) :: rest)) (h2 : ∀ p ∈ rest, p.1 ≠ x)
    (hs : findIn K (.ref C) "__setattr__" = some (some (.builtin "object.__setattr__"))) {cd : ClassData} (hc : clsIn K C = some cd) (hm : cd.mro = excMro) (ht : findIn K (.ref C) name = some none) (hh : hasDictIn K C = true)
    (e : (putL name (PyData.keyHash w.params name) (.str name (s.toks + 1)) v [], putN name [] 0) = (es', n')) (hz : es'.length ≤ 1000)
    (h : ∀ h' dx, Fr h₀ L h' m → News h₀ L h' ((dx, dictOf es' n') :: (x, excO C t (some dx)) :: rest) → (∀ p ∈ rest, p.1 < dx) → x < dx → Q () { s with heap := h', toks := s.toks + 2 }) :
    wpAny (model prog w) A (setAttr (.ref x) name v) Q E s := by
  obtain ⟨e1, e2⟩ := Prod.mk.inj e
  have hx := (N _ (.head _)).1
  have I : InstAt s.heap x (excO C t none) C none := ⟨hx, rfl, rfl, trivial⟩
  exact set_plain (X₀.keeps F.keep) I hs (osaE_new (s := { s with toks := s.toks + 1 }) F N (X₀.keeps F.keep) (by rw [hc, ← hm]; rfl) ht hh h2 (by show Obj.putName _ _ _ _ (dictOf [] 0) = _; rw [putName_dict, e1, e2]) rfl hz fun h' dx F' N' => h h' dx F' N')
theorem inst_exc {h : Heap} {od : Obj} {e t : Addr} {news : List (Addr × Obj)} (N : News h₀ L h news) (h1 : (e, excO C t (some dx)) ∈ news) (h2 : (dx, od) ∈ news) : InstAt h e (excO C t (some dx)) C (some od) :=
  ⟨(N _ h1).1, rfl, rfl, (N _ h2).1⟩
theorem inst_exc2 {h : Heap} {oe od : Obj} {e : Addr} {news : List (Addr × Obj)} (N : News h₀ L h news) (h1 : (e, oe) ∈ news) (hc : oe.cls = .ref C) (hd : oe.dict = some dx) (hn : notCls oe = true) (h2 : (dx, od) ∈ news) : InstAt h e oe C (some od) :=
  ⟨(N _ h1).1, hc, hn, by rw [hd]; exact (N _ h2).1⟩
end

section
variable {prog : Program} {w : World} {A : Around} {R : Result → Shared → Prop} {h : Heap} {g : Array GenState} {d : Drawn} {t : Nat} {os : OsState}
variable {nm q : Str} {N : Addr} {bs : List Value} {hdct : Bool} {sn : List Str} {sub : List Value} {col : Option Bool} {dd : Option Addr} {k0 k1 k2 k3 k5 : Option Value}

noncomputable abbrev exBm : List Value := [.ref 72, .ref 59, .type "Exception", .type "BaseException", .type "object"]

theorem exc_check_new {M : Model} {E : Value → Shared → Prop} {rest : List Value} {Q : Unit → Shared → Prop} (hC : h.get? 91 = some (excClassObj nm q 91 N bs exBm hdct sn sub false col dd k0 k1 k2 k3 k5 "Exception.__new__"))
    (hq : Q () ⟨h, g, d, t, os⟩) : wpAny M A (checkBuiltinCall "Exception.__new__" ⟨.ref 91 :: rest, []⟩) Q E ⟨h, g, d, t, os⟩ := by
  have F := PySem.F.excBase_Exception
  have hcont : (Value.ref 91 :: exBm).contains (.type "Exception") = true := by decide
  have hstar := F.noStar
  simp only [checkBuiltinCall, F.newKind, F.newSplit, F.newRow]
  repeat (first | refine wpAny_loadPart_at hC ?_ | (refine wpAny_isSubtype_exc hC ?_; rw [hcont]) | refine wpAny_staticBase_exc hC ?_ | refine wpAny_madeBy_exc hC ?_ | simp only [bne_self_eq_false, Bool.false_eq_true, if_false] | wp_step)
  exact hq

theorem exc_new {rest : List Value} (hC : h.get? 91 = some (excClassObj nm q 91 N bs exBm hdct sn sub false col dd k0 k1 k2 k3 k5 "Exception.__new__"))
    (hq : R (.ok (.ret (.ref (h.objs.size + 1)))) ⟨(h.push { cls := .type "tuple", data := .seq rest.toArray }).push (excO 91 h.objs.size none), g, d, t, os⟩) (hrest : rest.length ≤ sizeLine := by size_fits) :
    codeAny (model prog w) A (.builtin "Exception.__new__" ⟨.ref 91 :: rest, []⟩) R ⟨h, g, d, t, os⟩ := by
  have F := PySem.F.excBase_Exception
  have hends := F.ends
  have hcB : (Value.ref 91 :: exBm).contains (.type "Exception") = true := by decide
  have hcA : (Value.ref 91 :: exBm).contains (.type "AttributeError") = false := by decide
  have hcN : (Value.ref 91 :: exBm).contains (.type "NameError") = false := by decide
  refine PySem.codeAny_builtinAt F.entry ?_
  unfold Builtin.«BaseException.__new__»
  refine PySem.wpAt_bind ?_
  show PySem.wpAt _ _ _ (stack >>= _) _ _ _
  refine PySem.wpAt_bind (PySem.wpAt_stack fun p below => PySem.wpAt_of_wpAny ?_)
  wp_walk
  refine PySem.wpAt_of_wpAny ?_
  rw [F.owner]
  repeat (first | with_reducible refine wpAny_madeHere_exc F.canon hC ?_ | with_reducible refine wpAny_loadPart_at hC ?_ | (with_reducible refine wpAny_isSubtype_exc hC ?_; first | rw [hcB] | rw [hcA] | rw [hcN]) | wp_step)
  show R _ _
  rw [Heap.size_push]
  exact hq

theorem exc_type_call {rest : List Value} (hC : h.get? 91 = some (excClassObj nm q 91 N bs exBm hdct sn sub false col dd k0 k1 k2 k3 k5 "Exception.__new__"))
    (hi : Looks (model prog w) h (typeLookup (.ref 91) "__init__") (some (.ref 88))) (hb : ∀ self, Looks (model prog w) h (bindSpecial (.ref 88) self) (.ref 88, [self]))
    (call : Looks (model prog w) h (specialOf (.ref 91) "__call__") (some (.builtin "type.__call__"))) (typ : Looks (model prog w) h (isInstance (.ref 91) (.type "type")) true) (hrest : rest.length ≤ sizeLine)
    (hq : codeAny (model prog w) (A.under (.builtin "type.__call__" ⟨.ref 91 :: rest, []⟩)) (.call (.ref 88) ⟨.ref (h.objs.size + 1) :: rest, []⟩) (InitBack (h.objs.size + 1) R) ⟨(h.push { cls := .type "tuple", data := .seq rest.toArray }).push (excO 91 h.objs.size none), g, d, t, os⟩) :
    codeAny (model prog w) A (.call (.ref 91) ⟨rest, []⟩) R ⟨h, g, d, t, os⟩ := by
  have F := PySem.F.excBase_Exception
  refine codeAny_of_tree ?_
  show wpAny _ _ (callAny (.ref 91) _) _ _ _
  refine nd_load hC ?_
  show wpAny _ _ (callAny.viaDunder (.ref 91) _) _ _ _
  unfold callAny.viaDunder
  refine wpAny_bind (call.at ?_)
  dsimp only
  rw [tc_bind]
  refine wpAny_bind (wpAny_pure (wpAny_bind (wpAny_pure ?_)))
  refine wpAny_pure (a := Fin.again (.call (.builtin "type.__call__") ⟨.ref 91 :: rest, []⟩)) (And.intro rfl ?_)
  refine codeAny_call_builtin_at (Code.quiet_builtin _ (by decide +kernel)) entry_typeCall (check_slot tc_kind tc_split typ (tc_args _ _ _) ?_)
  unfold Builtin.«type.__call__»
  repeat (first | with_reducible refine wpAny_loadPart_at hC ?_ | with_reducible refine wpAny_madeBy_exc hC ?_ | wp_step)
  refine codeAny_call_builtin_code (Code.quiet_builtin _ F.quiet) (exc_check_new hC ?_)
  refine exc_new hC ?_ hrest
  show wpAny _ _ _ _ _ _
  have k : ∀ b o, h.get? b = some o → ((h.push { cls := .type "tuple", data := .seq rest.toArray }).push (excO 91 h.objs.size none)).get? b = some o := fun b o e => Heap.get?_push_of_some _ (Heap.get?_push_of_some _ e)
  have hC₁ := k _ _ hC
  have hget : ((h.push { cls := .type "tuple", data := .seq rest.toArray }).push (excO 91 h.objs.size none)).get? (h.objs.size + 1) = some (excO 91 h.objs.size none) := by heap_get
  have hcC : (Value.ref 91 :: exBm).contains (.ref 91) = true := by decide
  have i1 := hi.keeps k
  have b1 := (hb (.ref (h.objs.size + 1))).keeps k
  have t1 : Looks (model prog w) ((h.push { cls := .type "tuple", data := .seq rest.toArray }).push (excO 91 h.objs.size none)) (typeOf (.ref (h.objs.size + 1))) (.ref 91) := (Looks.ld hget).andThen .now
  unfold isInstance callSpecial? specialOf
  repeat (first | (with_reducible refine wpAny_isSubtype_exc hC₁ ?_; rw [hcC]) | with_reducible refine wpAny_call ?_ | lk)
  refine codeAny_mono hq fun r s' z => ?_
  rcases r with e | (v | _ | _ | _) <;> first | exact z | exact z.elim | skip
  obtain ⟨rfl, z⟩ := z
  exact wpAny_pure (wpAny_pure z)
end
end
section
open PySem PySem.W PySem.Calls PyProof.Rows

/-- the exception e in flight: its class, its own dict, its newest entry -/
noncomputable def TrD (h base : Heap) (e C dx : Addr) (fl : Value) : Prop :=
  ∃ oe vs T oT ts, h.get? e = some oe ∧ (oe.cls = .ref C ∧ oe.dict = some dx) ∧ oe.data = .fields vs ∧ vs[1]? = some (.ref T) ∧ base.get? T = none ∧ T ≠ e ∧ h.get? T = some oT ∧ oT.data = .fields ts ∧ ts[3]? = some fl
noncomputable def LeftD (base : Heap) (l : List Env) (e C dx : Addr) (fl : Value) (h h' : Heap) : Prop :=
  base.StaysIn h' ∧ h'.FunFrames base l ∧ TrD h' base e C dx fl ∧ h.UpToSlots h'
noncomputable def FlyD (base : Heap) (l : List Env) (e C dx : Addr) (fl : Value) (h : Heap) : Prop :=
  base.StaysIn h ∧ base.get? e = none ∧ h.FunFrames base l ∧ TrD h base e C dx fl

section
variable {M : Model} {A : Around} {E : Value → Shared → Prop} {s : Shared}

theorem newEntryD {base : Heap} {env : Env} {outer : List Env} {L e C dx : Addr} {oe : Obj} {vs : Array Value} {head : Value} {hadNext : Bool} {Q : Unit → Shared → Prop}
    (hfr : A.frames = some (env :: outer)) (hl : s.heap.FunFrames base (env :: outer)) (hf : env.frame = some L)
    (he : s.heap.get? e = some oe) (hc : oe.cls = .ref C ∧ oe.dict = some dx) (hkb : base.StaysIn s.heap) (hen : base.get? e = none) (hd : oe.data = .fields vs) (hsz : 1 < vs.size)
    (h : ∀ h', LeftD base (env :: outer) e C dx (rawInt L) s.heap h' → Q () { s with heap := h' }) :
    wpAny M A (do let a ← frameOf env; let pl ← entryPlaceOf L hadNext; let b ← EntryCells.newEntry head a .none (rawInt L) .none pl; setField (.ref e) 1 b) Q E s := by
  have hene : e ∉ (env :: outer).filterMap (·.frame) := fun hm => by
    obtain ⟨_, o, ho, hnf⟩ := hl.mem hm
    rw [he] at ho
    cases ho
    exact hnf vs hd
  refine wpAny_bind (wpAny_frameOf_fun hfr hl hf fun h₁ hs₁ => ?_)
  refine wpAny_bind (wpAny_entryPlaceOf fun pl hpl => ?_)
  unfold EntryCells.newEntry newFields
  refine wpAny_bind (wpAny_newObj_type ?_ (hpl.sizeOk5 _ _ _ _ _))
  have he₁ : h₁.get? e = some oe := (hs₁.2.1 e hene).trans he
  have kb₁ : base.StaysIn h₁ := fun b o hbo => (hs₁.2.1 b fun hm => by rw [(hl.mem hm).1] at hbo; cases hbo).trans (hkb b o hbo)
  generalize ho : ({ cls := .type "traceback", dict := none, data := .fields ([head, .ref L, .none, rawInt L, .none] ++ (if pl.isEmpty then List.replicate 6 Value.none else pl)).toArray } : Obj) = oT
  have he₂ := Heap.get?_push_of_some (h := h₁) oT he₁
  refine wpAny_setField he₂ hd hsz (h _ ?_)
  have hTe : h₁.objs.size ≠ e := Nat.ne_of_gt (Heap.lt_size he₁)
  have hd₃ := Obj.data_mapFields hd (·.setIfInBounds 1 (Value.ref h₁.objs.size))
  have he₃ := Heap.get?_update_self (Obj.mapFields (·.setIfInBounds 1 (Value.ref h₁.objs.size))) he₂ (Obj.isFreed_of_fields hd₃)
  have hT₃ := (Heap.get?_update_other (h₁.push oT) (Obj.mapFields (·.setIfInBounds 1 (Value.ref h₁.objs.size))) (Ne.symm hTe)).trans (Heap.get?_push_size h₁ (by rw [← ho]; rfl))
  have keep : ∀ b o, b ≠ e → h₁.get? b = some o → ((h₁.push oT).update e (Obj.mapFields (·.setIfInBounds 1 (Value.ref h₁.objs.size)))).get? b = some o :=
    fun b o hbe hb => by
      rw [Heap.get?_update_other _ _ (Ne.symm hbe)]
      exact Heap.get?_push_of_some _ hb
  have noRecord : ∀ b o, s.heap.get? b = some o → (∀ vs, o.data ≠ .fields vs) → b ≠ e := fun b o hb hnf q => by
    rw [q, he] at hb
    cases hb
    exact hnf vs hd
  refine ⟨fun b o hbo => keep b o (fun q => by rw [q, hen] at hbo; cases hbo) (kb₁ b o hbo), hl.of_keeps fun b o hb hnf => ?_, ?_, fun b o hb hnf => ?_⟩
  · obtain ⟨sl, hs⟩ := hs₁.2.2 b o hb
    exact ⟨_, keep b _ (noRecord b o hb hnf) hs, rfl⟩
  · refine ⟨_, _, h₁.objs.size, oT, _, he₃, ?_, hd₃, by simp [hsz], kb₁.fresh, hTe, hT₃, by rw [← ho], ?_⟩
    · obtain ⟨oc, od, oda, osl⟩ := oe
      dsimp only at hc hd
      subst hd
      exact hc
    · first | (simp; done) | (rcases hpl with rfl | ⟨_, _, _, _, _, _, _, rfl⟩ <;> simp)
  · obtain ⟨sl, hs⟩ := hs₁.2.2 b o hb
    exact ⟨sl, keep b _ (noRecord b o hb hnf) hs⟩

theorem setFlightD {base : Heap} {l : List Env} {e C dx : Addr} {fl : Value} {Q : Unit → Shared → Prop} (hh : FlyD base l e C dx fl s.heap)
    (h : ∀ h', FlyD base l e C dx .none h' → s.heap.UpToSlots h' → Q () { s with heap := h' }) : wpAny M A (setFlight (.ref e) none) Q E s := by
  obtain ⟨hkb, hen, hl, oe, vs, T, oT, ts, he, hcls, hd, h1, hnT, hTe, hT, hdT, h3⟩ := hh
  have hsz3 : 3 < ts.size := (Array.getElem?_eq_some_iff.mp h3).1
  have other : ∀ b, b ≠ T → (s.heap.update T (Obj.mapFields (·.setIfInBounds 3 ((none : Option Addr).elim Value.none fun f => rawInt f)))).get? b = s.heap.get? b :=
    fun b hb => Heap.get?_update_other _ _ (Ne.symm hb)
  have noRecord : ∀ b o, s.heap.get? b = some o → (∀ vs, o.data ≠ .fields vs) → b ≠ T := fun b o hb hnf q => by
    rw [q, hT] at hb
    cases hb
    exact hnf ts hdT
  unfold setFlight
  refine wpAny_bind (wpAny_field he hd h1 ?_)
  rw [if_pos (show (Value.ref T != Value.none) = true from by simp)]
  refine wpAny_setField hT hdT hsz3 (h _ ⟨fun b o hbo => (other b fun q => by rw [q, hnT] at hbo; cases hbo).trans (hkb b o hbo), hen,
    hl.of_keeps fun b o hb hnf => ⟨o, (other b (noRecord b o hb hnf)).trans hb, rfl⟩, ?_⟩ fun b o hb hnf => ⟨o.slots, (other b (noRecord b o hb hnf)).trans hb⟩)
  exact ⟨oe, vs, T, _, _, (other e (Ne.symm hTe)).trans he, hcls, hd, h1, hnT, hTe, Heap.get?_update_self _ hT (Obj.isFreed_of_fields (Obj.data_mapFields hdT _)), Obj.data_mapFields hdT _, by simp [hsz3]⟩

/-- the frame is noted upon an exception that another frame noted before -/
theorem noteOnD {base : Heap} {env : Env} {outer : List Env} {L e C dx : Addr} {Q : Unit → Shared → Prop}
    (hfr : A.frames = some (env :: outer)) (hf : env.frame = some L) (hh : FlyD base (env :: outer) e C dx .none s.heap)
    (h : ∀ h', FlyD base (env :: outer) e C dx (rawInt L) h' → s.heap.UpToSlots h' → Q () { s with heap := h' }) : wpAny M A (noteFrame (.ref e) env) Q E s := by
  obtain ⟨hkb, hen, hl, oe, vs, T, oT, ts, he, hcls, hd, h1, hnT, hTe, hT, hdT, h3⟩ := hh
  unfold noteFrame
  simp only [hf]
  refine wpAny_bind (wpAny_field he hd h1 ?_)
  rw [if_pos (show (Value.ref T != Value.none) = true from by simp)]
  refine wpAny_bind (wpAny_field hT hdT h3 ?_)
  rw [if_neg (show ¬ ((Value.none == rawInt L) = true) from by simp [rawInt])]
  refine wpAny_bind (wpAny_setField hT hdT (Array.getElem?_eq_some_iff.mp h3).1 ?_)
  have other : ∀ b, b ≠ T → (s.heap.update T (Obj.mapFields (·.setIfInBounds 3 Value.none))).get? b = s.heap.get? b := fun b hb => Heap.get?_update_other _ _ (Ne.symm hb)
  have noRecord : ∀ b o, s.heap.get? b = some o → (∀ vs, o.data ≠ .fields vs) → b ≠ T := fun b o hb hnf q => by
    rw [q, hT] at hb
    cases hb
    exact hnf ts hdT
  refine newEntryD hfr (hl.of_keeps fun b o hb hnf => ⟨o, (other b (noRecord b o hb hnf)).trans hb, rfl⟩) hf ((other e (Ne.symm hTe)).trans he) hcls
    (fun b o hbo => (other b fun q => by rw [q, hnT] at hbo; cases hbo).trans (hkb b o hbo)) hen hd (Array.getElem?_eq_some_iff.mp h1).1
    fun h' ⟨x1, x2, x3, x4⟩ => h h' ⟨x1, hen, x2, x3⟩ fun b o hb hnf => x4 b o ((other b (noRecord b o hb hnf)).trans hb) hnf

theorem leaveOnD0 {base : Heap} {env : Env} {outer : List Env} {L e C dx : Addr} {Q : Unit → Shared → Prop}
    (hfr : A.frames = some (env :: outer)) (hf : env.frame = some L) (hh : FlyD base (env :: outer) e C dx .none s.heap)
    (h : ∀ h', FlyD base outer e C dx .none h' → s.heap.UpToSlots h' → Q () { s with heap := h' }) : wpAny M A (leaving env (.ref e)) Q E s := by
  unfold leaving
  refine wpAny_bind (noteOnD hfr hf hh fun h₁ x₁ u₁ => ?_)
  exact setFlightD x₁ fun h₂ ⟨k1, k2, ⟨_, _, k3⟩, k4⟩ u₂ => h h₂ ⟨k1, k2, k3, k4⟩ (u₁.trans u₂)

theorem leaveFirstD0 {base : Heap} {env : Env} {outer : List Env} {L e C t dx : Addr} {Q : Unit → Shared → Prop}
    (hfr : A.frames = some (env :: outer)) (hl : s.heap.FunFrames base (env :: outer)) (hf : env.frame = some L)
    (he : s.heap.get? e = some (excO C t (some dx))) (hkb : base.StaysIn s.heap) (hen : base.get? e = none)
    (h : ∀ h', FlyD base outer e C dx .none h' → s.heap.UpToSlots h' → Q () { s with heap := h' }) : wpAny M A (leaving env (.ref e)) Q E s := by
  unfold leaving noteFrame
  simp only [hf]
  refine wpAny_bind (wpAny_bind (wpAny_field he rfl (x := .none) rfl ?_))
  rw [if_neg (by decide)]
  refine newEntryD hfr hl hf he ⟨rfl, rfl⟩ hkb hen rfl (by simp) fun h₁ ⟨x1, x2, x3, x4⟩ => ?_
  exact setFlightD ⟨x1, hen, x2, x3⟩ fun h₂ ⟨k1, k2, ⟨_, _, k3⟩, k4⟩ u₂ => h h₂ ⟨k1, k2, k3, k4⟩ (x4.trans u₂)
end
end
section
open PySem PySem.W PySem.Calls PyProof.Rows Builtin Builtin.ObjectAttr
section
variable {prog : Program} {w : World} {A : Around} {K : Frag} {C x dx L : Addr} {s : Shared} {h₀ : Heap} {m : Str → Option Value} {E : Value → Shared → Prop} {Q : Value → Shared → Prop}
theorem getE {ox : Obj} {es : List DictEntry} {n : Nat} {name : Str} {v : Value} {expr : Bool} (F : Fr h₀ L s.heap m) (X₀ : K.In h₀) (I : InstAt s.heap x ox C (some (dictOf es n)))
    (hga : findIn K (.ref C) "__getattribute__" = some (some (.builtin "BaseException.__getattribute__"))) (hgt : findIn K (.ref C) "__getattr__" = some none) (hsub : subIn K (.ref C) (.type "BaseException") = some true)
    (hh : hasDictIn K C = true) (ha : findIn K (.ref C) name = some none) (hl : getL name es = some (some v)) (hv : handedIn v = true) (h : Q v { s with toks := s.toks + 1 }) :
    wpAny (model prog w) A (getAttr (.ref x) name expr) Q E s := by
  have X := X₀.keeps F.keep
  obtain ⟨hp, g, d, t, os⟩ := s
  have FB := PySem.F.attr_Exception
  have L0 := I.type (M := model prog w)
  have L1 := looks_findIn (M := model prog w) X hga
  have L2 := looks_findIn (M := model prog w) X hgt
  have hf : findObj K C (some (dictOf es n)) name = some (.value v) := findObj_own hh ha rfl (by rw [lookIn_dict]; exact hl)
  have L3 := looks_find (M := model prog w) X I hf
  have L4 : Looks (model prog w) hp (isInstance (.ref x) (.type "BaseException")) true := L0.andThen (looks_subIn X hsub)
  have hx0 : (expr && onTheHeap (Value.builtin "BaseException.__getattribute__")) = false := by cases expr <;> rfl
  have hx2 : (Value.builtin "BaseException.__getattribute__" == Value.builtin "object.__getattribute__") = false := by decide +kernel
  have hx1 : (onTheHeap (Value.ref C) && Value.builtin "BaseException.__getattribute__" == Value.builtin "object.__getattribute__") = false := by rw [hx2]; rfl
  unfold getAttr
  refine wpAny_bind (wpAny_mkText ?_)
  unfold getAttrBy
  refine wpAny_holding (wpAny_bind (L0.at (wpAny_bind (L1.at ?_))))
  dsimp only
  rw [hx1]
  show wpAny _ _ (getAttrByItsOwn _ _ _ _ _ _) _ _ _
  unfold getAttrByItsOwn hookBefore callGetattribute boundAndCalled
  rw [hx0]
  refine wpAny_bind (L2.at ?_)
  refine wpAny_bind (wpAny_attempt (wpAny_holding ?_))
  simp only [Bool.false_eq_true, if_false]
  rw [FB.ga.bind]
  refine wpAny_bind (wpAny_pure ?_)
  refine wpAny_call ?_
  have ce : ∀ (R : Result → Shared → Prop), R (.ok (.ret v)) ⟨hp, g, d, t + 1, os⟩ → codeAny (model prog w) A (.call (.builtin "BaseException.__getattribute__") ⟨[.ref x, .str name t], []⟩) R ⟨hp, g, d, t + 1, os⟩ := by
    intro R hR
    have hk : builtinKind "BaseException.__getattribute__" = some .slot := by decide +kernel
    have hsp : splitId "BaseException.__getattribute__" = some ("BaseException", "__getattribute__") := by decide +kernel
    refine codeAny_call_builtin FB.ga.plain PySem.F.entry_bexc_ga (@check_slot (model prog w) _ _ ⟨hp, g, d, t + 1, os⟩ "BaseException.__getattribute__" "BaseException" "__getattribute__" (.ref x) [.str name t] [] _ hk hsp L4 (PySem.F.args_bexc_ga _ _) ?_)
    show wpAny _ _ (Builtin.«object.__getattribute__» ⟨[.ref x, .str name t], []⟩) _ _ _
    refine wpAny_bind (wpAny_pure (wpAny_bind (wpAny_pure (wpAny_bind (L0.at (wpAny_bind (L3.at ?_)))))))
    exact wpAny_pure hR
  refine ce _ ?_
  show wpAny _ _ (handedOut v) _ _ _
  rw [handedOut_of hv]
  exact wpAny_pure h

/-- ParseError(..) made, its own __init__ entered -/
theorem call_excE {pos : List Value} {news : List (Addr × Obj)} {nm q : Str} {N : Addr} {bs : List Value} {hdct : Bool} {sn : List Str} {sub : List Value} {col : Option Bool} {dd : Option Addr} {k0 k1 k2 k3 k5 : Option Value}
    (F : Fr h₀ L s.heap m) (X₀ : K.In h₀) (N₀ : News h₀ L s.heap news) (hC : K.lookup 91 = some (excClassObj nm q 91 N bs exBm hdct sn sub false col dd k0 k1 k2 k3 k5 "Exception.__new__"))
    (hi : findIn K (.ref 91) "__init__" = some (some (.ref 88))) (hf : isFn K (.ref 88) = true) (hc : specialIn K (.ref 91) "__call__" = some (some (.builtin "type.__call__"))) (ht : instIn K (.ref 91) (.type "type") = some true) (hz : pos.length ≤ sizeLine)
    (h : ∀ e t h', Fr h₀ L h' m → News h₀ L h' ((e, excO 91 t none) :: (t, ({ cls := .type "tuple", data := .seq pos.toArray } : Obj)) :: news) → (∀ p ∈ news, p.1 < t) → t < e → (∀ p ∈ news, p.1 < e) →
      codeAny (model prog w) (A.under (.builtin "type.__call__" ⟨.ref 91 :: pos, []⟩)) (.call (.ref 88) ⟨.ref e :: pos, []⟩) (InitBack e fun r s' => match r with | .ok (.ret v) => Q v s' | .ok _ => False | .error e => E e s') { s with heap := h' }) :
    wpAny (model prog w) A (call (.ref 91) pos []) Q E s := by
  have X := X₀.keeps F.keep
  obtain ⟨hh, g, d, t, os⟩ := s
  refine wpAny_call ?_
  have N' := (N₀.push F { cls := .type "tuple", data := .seq pos.toArray }).push (F.push _) (excO 91 hh.objs.size none)
  rw [Heap.size_push] at N'
  exact exc_type_call (X _ _ hC) (looks_findIn X hi) (fun self => bind_fn X self (beq_iff_eq.mp hf)) (looks_specialIn X hc) (looks_instIn X ht) hz
    (h _ hh.objs.size _ ((F.push _).push _) N' (fun p hp => Heap.lt_size (N₀ p hp).1) (Nat.lt_succ_self _) (fun p hp => Nat.lt_succ_of_lt (Heap.lt_size (N₀ p hp).1)))
end

noncomputable def IsPE (h : Heap) : Prop := ∃ nm q N bs hdct sn sub col dd k0 k1 k2 k3 k5, h.get? 91 = some (excClassObj nm q 91 N bs exBm hdct sn sub false col dd k0 k1 k2 k3 k5 "Exception.__new__")
/-- what the evaluated expression of a raise must be -/
noncomputable def RaiseBack (E : Value → Shared → Prop) (v : Value) (s₁ : Shared) : Prop :=
  ∃ e t dx, v = .ref e ∧ IsPE s₁.heap ∧ s₁.heap.get? e = some (excO 91 t (some dx)) ∧ E (.ref e) s₁
theorem RaiseBack.intro {E : Value → Shared → Prop} {e t dx : Addr} {s₁ : Shared} {h₀ : Heap} {L : Addr} {m : Str → Option Value} {news : List (Addr × Obj)} {K : Frag} {nm q : Str} {N : Addr} {bs : List Value} {hdct : Bool} {sn : List Str} {sub : List Value} {col : Option Bool} {dd : Option Addr} {k0 k1 k2 k3 k5 : Option Value}
    (F : Fr h₀ L s₁.heap m) (X₀ : K.In h₀) (N₁ : News h₀ L s₁.heap news) (hC : K.lookup 91 = some (excClassObj nm q 91 N bs exBm hdct sn sub false col dd k0 k1 k2 k3 k5 "Exception.__new__"))
    (hm : (e, excO 91 t (some dx)) ∈ news) (h : E (.ref e) s₁) : RaiseBack E (.ref e) s₁ :=
  ⟨e, t, dx, rfl, ⟨nm, q, N, bs, hdct, sn, sub, col, dd, k0, k1, k2, k3, k5, (X₀.keeps F.keep) _ _ hC⟩, (N₁ _ hm).1, h⟩

section
variable {prog : Program} {w : World} {A : Around} {K : Frag} {s : Shared} {env : Env} {E : Value → Shared → Prop}
theorem Raise_E {x : Expr} {pos : Pos} {Q : Flow → Shared → Prop} (hh : A.handled = none) (h : wpAny (model prog w) A (eval x env) (RaiseBack E) E s) :
    wpAny (model prog w) A (exec (.Raise (some x) none pos) env) Q E s := by
  rw [arm_exec_Raise]
  refine wpAny_bind (wpAny_standAt ?_)
  unfold raiseStmt
  simp only [evalOpt, Option.map]
  refine wpAny_bind (wpAny_bind (wpAny_mono h (fun v s₁ h₁ => wpAny_bind (wpAny_standAt (wpAny_pure ?_))) fun _ _ x => x))
  obtain ⟨e, t, dx, rfl, ⟨nm, q, N, bs, hdct, sn, sub, col, dd, k0, k1, k2, k3, k5, hC⟩, he, hE⟩ := h₁
  obtain ⟨hp, g, d, tk, os⟩ := s₁
  have hcB : (Value.ref 91 :: exBm).contains (.type "BaseException") = true := by decide
  repeat (first | with_reducible refine wpAny_loadPart_at he ?_ | with_reducible refine wpAny_loadPart_at hC ?_ | (with_reducible refine wpAny_isSubtype_exc hC ?_; rw [hcB]) | wp_step)
  exact wpAny_raiseNew_none hh hE
end
end
section
open PySem PySem.W PySem.Calls PyProof.Rows PySem.Spec

/-- the exception e (class 91, dict dx) flies out of the frames above l; what stood in G and in news still stands -/
noncomputable def RaisedD (base G : Heap) (l : List Env) (e dx : Addr) (news : List (Addr × Obj)) (h : Heap) : Prop :=
  ∃ B, base.StaysIn B ∧ (∀ b o, G.get? b = some o → b ∉ l.filterMap (·.frame) → B.get? b = some o) ∧ (∀ q ∈ news, B.get? q.1 = some q.2 ∧ G.get? q.1 = none ∧ base.get? q.1 = none) ∧ FlyD B l e 91 dx .none h

section
variable {M : Model} {A : Around} {E : Value → Shared → Prop} {s' : Shared} {base g g₂ h : Heap} {outer : List Env} {L a e t dx : Addr} {m : Str → Option Value} {name : Str} {scope : Scope} {cd : Value} {Q : Unit → Shared → Prop} {news news' : List (Addr × Obj)}
theorem leave_raiseD (K : Below A base outer g) (F : Fr g L s'.heap m) (N : News g L s'.heap news') (he : (e, excO 91 t (some dx)) ∈ news') (hs : ∀ p ∈ news, p ∈ news') (hne : ∀ p ∈ news, p.1 ≠ e)
    (hQ : ∀ h', RaisedD base g outer e dx news h' → g.UpToSlots h' → Q () { s' with heap := h' }) (hk : scope.kind = .function := by rfl) :
    wpAny M (A.deeper (envOf name scope L a cd)) (leaving (envOf name scope L a cd) (.ref e)) Q E s' := by
  have K' := K.push (name := name) (a := a) (cd := cd) F hk
  have hin : ∀ env ∈ (envOf name scope L a cd :: outer), ∀ b, env.frame = some b → b ∈ (envOf name scope L a cd :: outer).filterMap (·.frame) := fun env he b hb => List.mem_filterMap.mpr ⟨env, he, hb⟩
  have E1 := (N _ he).1
  have he0 : g.get? e = none := (N _ he).2.2
  have st : base.StaysIn (hideAll s'.heap (e :: (envOf name scope L a cd :: outer).filterMap (·.frame))) := fun b o q => hideAll_get _ (K'.stays b o q) fun hm => by
    rcases List.mem_cons.mp hm with rfl | hm
    · have := K.stays _ _ q; rw [he0] at this; cases this
    · rw [(K'.frames.mem hm).1] at q; cases q
  have hl : ∀ q ∈ news, (hideAll s'.heap (e :: (envOf name scope L a cd :: outer).filterMap (·.frame))).get? q.1 = some q.2 ∧ g.get? q.1 = none ∧ base.get? q.1 = none := fun q hq => by
    have Nq := N q (hs q hq)
    refine ⟨hideAll_get _ Nq.1 fun hm => ?_, Nq.2.2, fresh_of_stays K.stays Nq.2.2⟩
    rcases List.mem_cons.mp hm with h1 | hm
    · exact hne q hq h1
    obtain ⟨env, henv, hf⟩ := List.mem_filterMap.mp hm
    rcases List.mem_cons.mp henv with rfl | henv
    · exact Nq.2.1 (Option.some.inj hf).symm
    · obtain ⟨o, ho, _⟩ := (K.frames.mem (List.mem_filterMap.mpr ⟨env, henv, hf⟩)).2
      rw [Nq.2.2] at ho; cases ho
  refine leaveFirstD0 K'.stack (base := hideAll s'.heap (e :: (envOf name scope L a cd :: outer).filterMap (·.frame))) (funFrames_hide K'.frames fun env he b hb => .tail _ (hin env he b hb)) rfl E1 (fun b o q => of_hideAll _ q) (hideAll_none _ (.head _)) fun h' x u => ?_
  refine hQ h' ⟨_, st, fun b o q nm => hideAll_get _ (F.keep b o q) fun hm => ?_, hl, x⟩ ((Heap.UpToSlots.of_keeps F.keep).trans u)
  rcases List.mem_cons.mp hm with rfl | hm
  · rw [he0] at q; cases q
  · rcases kts_mem hm with z | z
    · rw [z, kts_self F] at q; cases q
    · exact nm z

theorem leave_raiseD2 {b : Addr × Obj} {tl : List (Addr × Obj)} (K : Below A base outer g) (F : Fr g L s'.heap m) (N : News g L s'.heap (b :: (e, excO 91 t (some dx)) :: tl)) (hne : ∀ p ∈ b :: tl, p.1 ≠ e)
    (hQ : ∀ h', RaisedD base g outer e dx (b :: tl) h' → g.UpToSlots h' → Q () { s' with heap := h' }) (hk : scope.kind = .function := by rfl) :
    wpAny M (A.deeper (envOf name scope L a cd)) (leaving (envOf name scope L a cd) (.ref e)) Q E s' :=
  leave_raiseD K F N (.tail _ (.head _)) (fun p hp => by rcases List.mem_cons.mp hp with rfl | hp; exact .head _; exact .tail _ (.tail _ hp)) hne hQ hk
theorem RaisedD.less {l : List Env} (R : RaisedD base g l e dx news' h) (hs : ∀ p ∈ news, p ∈ news') : RaisedD base g l e dx news h := by
  obtain ⟨B, hB, hG, hl, hfl⟩ := R
  exact ⟨B, hB, hG, fun q hq => hl q (hs q hq), hfl⟩

theorem leave_onD (K : Below A base outer g) (F : Fr g L g₂ m) (R : RaisedD base g₂ (envOf name scope L a cd :: outer) e dx news s'.heap) (hsm : g₂.UpToSlots s'.heap)
    (hQ : ∀ h', RaisedD base g outer e dx news h' → g.UpToSlots h' → Q () { s' with heap := h' }) :
    wpAny M (A.deeper (envOf name scope L a cd)) (leaving (envOf name scope L a cd) (.ref e)) Q E s' := by
  obtain ⟨B, hB, hBG, hl, hfl⟩ := R
  refine leaveOnD0 (Around.frames_deeper K.stack) rfl hfl fun h' x1 x2 => hQ h' ⟨B, hB, fun b o q nm => hBG b o (F.keep b o q) (fun hm => ?_), fun q hq => ⟨(hl q hq).1, kts_none F.keep (hl q hq).2.1, (hl q hq).2.2⟩, x1⟩ ((Heap.UpToSlots.of_keeps F.keep).trans (hsm.trans x2))
  rcases kts_mem hm with z | z
  · rw [z, kts_self F] at q; cases q
  · exact nm z
end

section
variable {prog : Program} {w : World} {A₀ : Around} {E : Value → Shared → Prop} {s' : Shared} {base g₀ g G h : Heap} {outer : List Env} {L a e dx : Addr} {m : Str → Option Value} {name : Str} {scope : Scope} {cd : Value}
  {n : Str} {b₀ : Stmt} {suite : List Stmt} {pos np : Pos} {rest : List ExceptHandler} {Q : Flow → Shared → Prop} {news : List (Addr × Obj)} {KF : Frag}
  {p : Program} {loose : List Str} {mean : ExcName → Option Value} {mg mb : Str → Option Value} {x : Str}

theorem caught_D {nm q : Str} {N : Addr} {bs : List Value} {hdct : Bool} {sn : List Str} {sub : List Value} {col : Option Bool} {dd : Option Addr} {k0 k1 k2 k3 k5 : Option Value}
    (R : RaisedD base G (envOf name scope L a cd :: outer) e dx news s'.heap) (F : Fr g L G m) (K : Below A₀ base outer g) (hsm : G.UpToSlots s'.heap) (XB : KF.In base) (TB : Top p loose mean mg mb base)
    (D : KtsDicts (outer.filterMap (·.frame)) g) (T0 : KtsTurn (outer.filterMap (·.frame)) g₀ g)
    (ex : nsIn KF mainGlobals x = some (some (.ref 91))) (hC : KF.lookup 91 = some (excClassObj nm q 91 N bs exBm hdct sn sub false col dd k0 k1 k2 k3 k5 "Exception.__new__"))
    (k : ∀ h' g' tk oe, KtsTurn (outer.filterMap (·.frame)) g₀ g' → Fr g' L h' (fun y => if y = n then some (.ref e) else m y) → News g' L h' ((e, oe) :: news) → oe.cls = .ref 91 → oe.dict = some dx → notCls oe = true →
      Below A₀ base outer g' → KF.In g' → Top p loose mean mg mb g' → KtsDicts (outer.filterMap (·.frame)) g' →
      wpAny (model prog w) ((A₀.deeper (envOf name scope L a cd)).mark (some (.ref e))) (execs (b₀ :: suite) (envOf name scope L a cd))
        (fun f s₄ => wpAny (model prog w) (A₀.deeper (envOf name scope L a cd)) (do bindName (envOf name scope L a cd) n .none; unbindBehindTheSuite (envOf name scope L a cd) n pos) (fun _ s₅ => Q f s₅) E s₄)
        (AsSuiteRaised (model prog w) ((A₀.deeper (envOf name scope L a cd)).mark (some (.ref e))) (envOf name scope L a cd) n pos (notedBy (model prog w) ((A₀.deeper (envOf name scope L a cd)).mark (some (.ref e))) (envOf name scope L a cd) (cameBackBy (model prog w) (A₀.deeper (envOf name scope L a cd)) (envOf name scope L a cd) E)))
        { s' with heap := h', toks := tk })
    (hk : scope.kind = .function := by rfl) (hlo : (envOf name scope L a cd).kindOf n = some .local := by rfl) (hx : (envOf name scope L a cd).kindOf x = some .globalImplicit := by rfl) (hd : (x == ("__debug__" : Str)) = false := by decide) :
    wpAny (model prog w) (A₀.deeper (envOf name scope L a cd)) (noteFrame (.ref e) (envOf name scope L a cd))
      (fun _ s₂ => wpAny (model prog w) (A₀.deeper (envOf name scope L a cd)) (setFlight (.ref e) none) (fun _ s₃ =>
        wpAny (model prog w) (A₀.deeper (envOf name scope L a cd)) (handleBy (.ref e) (envOf name scope L a cd) (.ExceptHandler (some (.Name x np)) (some n) (b₀ :: suite) pos :: rest)) Q E s₃) E s₂) E s' := by
  obtain ⟨B, hB, hBG, hl, hfl⟩ := R
  have hL : B.get? L = none := by
    obtain ⟨_, ⟨L', _, hf, hn', _⟩, _⟩ := hfl.2.2.1
    obtain rfl : L = L' := Option.some.inj hf
    exact hn'
  refine noteOnD (Around.frames_deeper K.stack) rfl hfl fun h₄ hheld₄ hsm₄ => ?_
  refine setFlightD hheld₄ fun h₅ hheld hsm₅' => ?_
  have hsm₅ := hsm₄.trans hsm₅'
  obtain ⟨g₅, T₅, F₅, K₅⟩ := kts_ground K F hBG hheld.1 (hsm.trans hsm₅)
  have X₅ : KF.In g₅ := XB.keeps K₅.stays
  have P₅ : TopRead p loose mg mb g₅ := topRead_of (TB.keeps K₅.stays)
  obtain ⟨oe₅, vs₅, T₅', oT₅, ts₅, hob, hobc, _⟩ := hheld.2.2.2
  refine wpAny_handleBy_cons (codeAny_handlers_test (name_K F₅ X₅ P₅ ex ?_ hk hx hd)) (by intro q; cases q)
  refine wpAny_excMatches_sub_self (F₅.keep _ _ (X₅ _ _ hC)) hob hobc.1 (by decide) (codeAny_handlers_suite_as ?_)
  refine setFlightD hheld fun h₆ hfl₆ hsm₆ => ?_
  obtain ⟨g₆, T₆, F₆, K₆⟩ := kts_ground K F hBG hfl₆.1 ((hsm.trans hsm₅).trans hsm₆)
  obtain ⟨oe, vs, T₆', oT, ts, hoe, hoec, hoed, _⟩ := hfl₆.2.2.2
  have ne₆ : g₆.get? e = none := T₆.none_ _ (kts_fresh F hBG hfl₆.2.1 fun o ho m => by
    obtain ⟨_, o', ho', hd⟩ := K.frames.mem m
    rw [ho] at ho'
    cases ho'
    obtain ⟨sl, hs⟩ := ((hsm.trans hsm₅).trans hsm₆) _ _ (F.keep _ _ ho) hd
    rw [hoe] at hs
    cases hs
    exact hd _ hoed)
  have N₆ := News.more F₆ News.nil hoe (fun es n q => by rw [hoed] at q; cases q) ne₆
  have Nl : News g₆ L h₆ news := fun q hq => ⟨hfl₆.1 _ _ (hl q hq).1, (fun z => by have := (hl q hq).1; rw [z, hL] at this; cases this), T₆.none_ _ (kts_none F.keep (hl q hq).2.1)⟩
  refine stN F₆ (news := (e, oe) :: news) (fun q hq => by
    rcases List.mem_cons.mp hq with rfl | hq
    · exact N₆ _ (.head _)
    · exact Nl q hq) (fun h₇ F₇ N₇ => ?_) hk hlo
  exact k h₇ g₆ _ oe (T0.trans T₆) F₇ N₇ hoec.1 hoec.2 (by unfold notCls; rw [hoed]) K₆ (XB.keeps K₆.stays) (TB.keeps K₆.stays) (D.turn T₆)
end

/-- in the lowest frame nothing of the ground has turned -/
theorem fr_nil {h₀ h₀' h : Heap} {L : Addr} {m : Str → Option Value} (T : KtsTurn [] h₀ h₀') (F : Fr h₀' L h m) : Fr h₀ L h m :=
  ⟨F.ns, fun b o e => F.keep b o (T.other b o e (by simp)), by rw [← T.size]; exact F.above⟩
theorem news_nil {h₀ h₀' h : Heap} {L : Addr} {news : List (Addr × Obj)} (T : KtsTurn [] h₀ h₀') (N : News h₀' L h news) : News h₀ L h news := fun p hp => by
  obtain ⟨h1, h2, h3⟩ := N p hp
  refine ⟨h1, h2, ?_⟩
  cases q : h₀.get? p.1 with
  | none => rfl
  | some o => rw [T.other _ _ q (by simp)] at h3; cases h3
end
section
open PySem PySem.W PySem.Calls PyProof.Rows
inductive WV where
  | none
  | str (s : Str)
  | int (i : Int)
noncomputable abbrev WV.v (t : Tok) : WV → Value
  | .none => .none
  | .str s => .str s t
  | .int i => .int i t
structure PW where
  kind : Str
  txt : Str
  val : WV
  pl : Int
noncomputable abbrev streamD (P : Params) (k1 k2 k3 k4 t1 t3 : Tok) (text : Str) (lw lh : Addr) (pl : Int) : Obj :=
  dictOf [⟨PyData.keyHash P (Str.ofString "text"), .str (Str.ofString "text") k1, .str text t1⟩, ⟨PyData.keyHash P (Str.ofString "words"), .str (Str.ofString "words") k2, .ref lw⟩, ⟨PyData.keyHash P (Str.ofString "at"), .str (Str.ofString "at") k3, .int pl t3⟩, ⟨PyData.keyHash P (Str.ofString "heights"), .str (Str.ofString "heights") k4, .ref lh⟩] 4
noncomputable abbrev wordD (P : Params) (k1 k2 k3 k4 t1 t2 t4 : Tok) (kind text : Str) (v : Value) (pl : Int) : Obj :=
  dictOf [⟨PyData.keyHash P (Str.ofString "kind"), .str (Str.ofString "kind") k1, .str kind t1⟩, ⟨PyData.keyHash P (Str.ofString "text"), .str (Str.ofString "text") k2, .str text t2⟩, ⟨PyData.keyHash P (Str.ofString "value"), .str (Str.ofString "value") k3, v⟩, ⟨PyData.keyHash P (Str.ofString "place"), .str (Str.ofString "place") k4, .int pl t4⟩] 4
noncomputable abbrev perrD (P : Params) (k1 k2 t1 t2 : Tok) (msg : Str) (pl : Int) : Obj :=
  dictOf [⟨PyData.keyHash P (Str.ofString "message"), .str (Str.ofString "message") k1, .str msg t1⟩, ⟨PyData.keyHash P (Str.ofString "place"), .str (Str.ofString "place") k2, .int pl t2⟩] 2
/-- the list's items are the words, each written out in the ledger -/
noncomputable def WordsIn (P : Params) (led : List (Addr × Obj)) (items : Array Value) (ws : List PW) : Prop :=
  ∀ (i : Nat) (g : PW), ws[i]? = some g → ∃ x dx k1 k2 k3 k4 t1 t2 t3 t4, items[i]? = some (.ref x) ∧ (x, instObj 161 dx) ∈ led ∧ (dx, wordD P k1 k2 k3 k4 t1 t2 t4 g.kind g.txt (g.val.v t3) g.pl) ∈ led
noncomputable def isSgn (g : PW) (t : Str) : Bool := (g.kind.cps.toList == (Str.ofString "sign").cps.toList) && (g.txt.cps.toList == t.cps.toList)
theorem str_of_beq {a b : Str} (h : (a.cps.toList == b.cps.toList) = true) : a = b := by
  obtain ⟨a⟩ := a; obtain ⟨b⟩ := b
  have := beq_iff_eq.mp h
  simp only at this
  rw [Array.toList_inj.mp this]
theorem beq_self_str (a : Str) : (a.cps.toList == a.cps.toList) = true := by simp
section
variable {prog : Program} {w : World} {A : Around} {E : Value → Shared → Prop} {s : Shared} {h₀ : Heap} {L : Addr} {m : Str → Option Value}
theorem item_ctx {Q : Value → Shared → Prop} {value slice : Expr} {l : Addr} {items : Array Value} {n : Nat} {k : Int} {u : Tok} {v : Value} {news : List (Addr × Obj)}
    (N : News h₀ L s.heap news) (hm : (l, listOf items n) ∈ news) (h0 : 0 ≤ k) (hhi : k < 2 ^ 63) (hx : items[k.toNat]? = some v) (h : Q v s)
    (hs : subscripted slice false (.ref l) (.int k u) = operate [.ref l, .int k u] (getItem (.ref l) (.int k u)) := by with_unfolding_all rfl) :
    wpAny (model prog w) A (subscriptTail value slice (.ref l) (.int k u)) Q E s := by
  have hl : s.heap.IsList l items := ⟨_, (N _ hm).1, rfl, n, rfl⟩
  exact tail_any hl.typeIs slot_list_getitem.lookup (wpAny_getItem_list hl h0 hhi (by simpa using hx) h) hs
theorem eq_ctx {Q : Value → Shared → Prop} {x y : Str} {t u : Tok} {b : Bool} (hb : (x.cps.toList == y.cps.toList) = b) (h : Q (.bool b) s) : wpAny (model prog w) A (compareOp .Eq (.str x t) (.str y u)) Q E s :=
  P.eq_str (by rw [hb]; exact h)
theorem ne_ctx {Q : Value → Shared → Prop} {x y : Str} {t u : Tok} {b : Bool} (hb : (x.cps.toList == y.cps.toList) = b) (h : Q (.bool (!b)) s) : wpAny (model prog w) A (compareOp .NotEq (.str x t) (.str y u)) Q E s :=
  P.ne_str (by rw [bne, hb]; exact h)
end
theorem log_small {i : Int} (h0 : 0 ≤ i) (h1 : i ≤ 9223372036854775808) : i.natAbs.log2 < 1920 := by
  have h : i.natAbs ≤ 9223372036854775808 := by omega
  by_cases hz : i.natAbs = 0
  · rw [hz]; decide
  · exact (Nat.log2_lt hz).mpr (Nat.lt_of_le_of_lt h (by decide +kernel))
theorem empty_app (y : Str) : Str.ofString "" ++ y = y := by
  obtain ⟨y⟩ := y
  show Str.mk _ = _
  congr 1
  have : (Str.ofString "").cps = #[] := by decide +kernel
  rw [this]; simp
end
section
open PySem PySem.W PySem.Calls PyProof.Rows
theorem fill_once : (Mine.K1 = Mine.K1) ∨ PySem.Challenge.rw_xm0761_01 = PySem.Challenge.rw_xm0761_01 := by
  k_fill
  exact Or.inl rfl
theorem IsTup_of {K : Frag} {h : Heap} {a : Addr} {items : Array Value} {n : Nat} {dd : Option Addr} {sl : Array (Option Value)} (X : K.In h) (hl : K.lookup a = some ⟨.type "tuple", dd, .seq items n, sl⟩) : IsTup h a items := ⟨_, X _ _ hl, rfl, n, rfl⟩
noncomputable def RESV : List Str := [Str.ofString "ADD", Str.ofString "ALL", Str.ofString "ALTER", Str.ofString "AND", Str.ofString "AS", Str.ofString "AUTOINCREMENT", Str.ofString "BETWEEN", Str.ofString "CASE", Str.ofString "CHECK", Str.ofString "COLLATE", Str.ofString "COMMIT", Str.ofString "CONSTRAINT", Str.ofString "CREATE", Str.ofString "DEFAULT", Str.ofString "DEFERRABLE", Str.ofString "DELETE", Str.ofString "DISTINCT", Str.ofString "DROP", Str.ofString "ELSE", Str.ofString "ESCAPE", Str.ofString "EXCEPT", Str.ofString "EXISTS", Str.ofString "FOREIGN", Str.ofString "FROM", Str.ofString "GROUP", Str.ofString "HAVING", Str.ofString "IN", Str.ofString "INDEX", Str.ofString "INSERT", Str.ofString "INTERSECT", Str.ofString "INTO", Str.ofString "IS", Str.ofString "ISNULL", Str.ofString "JOIN", Str.ofString "LIMIT", Str.ofString "NOT", Str.ofString "NOTHING", Str.ofString "NOTNULL", Str.ofString "NULL", Str.ofString "ON", Str.ofString "OR", Str.ofString "ORDER", Str.ofString "PRIMARY", Str.ofString "REFERENCES", Str.ofString "RETURNING", Str.ofString "SELECT", Str.ofString "SET", Str.ofString "TABLE", Str.ofString "THEN", Str.ofString "TO", Str.ofString "TRANSACTION", Str.ofString "UNION", Str.ofString "UNIQUE", Str.ofString "UPDATE", Str.ofString "USING", Str.ofString "VALUES", Str.ofString "WHEN", Str.ofString "WHERE"]
noncomputable def JOINW : List Str := [Str.ofString "CROSS", Str.ofString "FULL", Str.ofString "INDEXED", Str.ofString "INNER", Str.ofString "LEFT", Str.ofString "NATURAL", Str.ofString "OUTER", Str.ofString "RIGHT"]
noncomputable def SGN2 : List Str := [Str.ofString "<=", Str.ofString ">=", Str.ofString "<>", Str.ofString "!=", Str.ofString "==", Str.ofString "||", Str.ofString "<<", Str.ofString ">>"]
noncomputable def resv (x : Str) : Bool := RESV.any (· == x)
theorem resv_tup {P : Params} {h : Heap} (X : (Mine.K1 P).In h) : ∃ items, IsTup h 96 items ∧ StrsAre items.toList RESV := by
  refine ⟨_, IsTup_of X (by k_is), ?_⟩
  unfold RESV
  repeat (first | exact StrsAre.nil | refine StrsAre.cons _ _ ?_)
section
variable {prog : Program} {w : World} {A : Around} {E : Value → Shared → Prop} {s : Shared} {h₀ : Heap} {L : Addr} {m : Str → Option Value} {Q : Value → Shared → Prop} {x : Str} {t : Tok} {b : Bool}
theorem resv_notin (F : Fr h₀ L s.heap m) (X₀ : (Mine.K1 w.params).In h₀) (hb : resv x = b) (h : Q (.bool (!b)) s) : wpAny (model prog w) A (compareOp .NotIn (.str x t) (.ref 96)) Q E s := by
  obtain ⟨items, ht, hi⟩ := resv_tup (X₀.keeps F.keep)
  exact notin_tuple_strs ht hi (by show Q (.bool (!(resv x))) s; rw [hb]; exact h)
theorem resv_in (F : Fr h₀ L s.heap m) (X₀ : (Mine.K1 w.params).In h₀) (hb : resv x = b) (h : Q (.bool b) s) : wpAny (model prog w) A (compareOp .In (.str x t) (.ref 96)) Q E s := by
  obtain ⟨items, ht, hi⟩ := resv_tup (X₀.keeps F.keep)
  exact in_tuple_strs ht hi (by show Q (.bool (resv x)) s; rw [hb]; exact h)
end
noncomputable def joinw (x : Str) : Bool := JOINW.any (· == x)
theorem joinw_tup {P : Params} {h : Heap} (X : (Mine.K1 P).In h) : ∃ items, IsTup h 97 items ∧ StrsAre items.toList JOINW := by
  refine ⟨_, IsTup_of X (by k_is), ?_⟩
  unfold JOINW
  repeat (first | exact StrsAre.nil | refine StrsAre.cons _ _ ?_)
section
variable {prog : Program} {w : World} {A : Around} {E : Value → Shared → Prop} {s : Shared} {h₀ : Heap} {L : Addr} {m : Str → Option Value} {Q : Value → Shared → Prop} {x : Str} {t : Tok} {b : Bool}
theorem joinw_notin (F : Fr h₀ L s.heap m) (X₀ : (Mine.K1 w.params).In h₀) (hb : joinw x = b) (h : Q (.bool (!b)) s) : wpAny (model prog w) A (compareOp .NotIn (.str x t) (.ref 97)) Q E s := by
  obtain ⟨items, ht, hi⟩ := joinw_tup (X₀.keeps F.keep)
  exact notin_tuple_strs ht hi (by show Q (.bool (!(joinw x))) s; rw [hb]; exact h)
theorem joinw_in (F : Fr h₀ L s.heap m) (X₀ : (Mine.K1 w.params).In h₀) (hb : joinw x = b) (h : Q (.bool b) s) : wpAny (model prog w) A (compareOp .In (.str x t) (.ref 97)) Q E s := by
  obtain ⟨items, ht, hi⟩ := joinw_tup (X₀.keeps F.keep)
  exact in_tuple_strs ht hi (by show Q (.bool (joinw x)) s; rw [hb]; exact h)
end
noncomputable def sgn2 (x : Str) : Bool := SGN2.any (· == x)
theorem sgn2_tup {P : Params} {h : Heap} (X : (Mine.K1 P).In h) : ∃ items, IsTup h 94 items ∧ StrsAre items.toList SGN2 := by
  refine ⟨_, IsTup_of X (by k_is), ?_⟩
  unfold SGN2
  repeat (first | exact StrsAre.nil | refine StrsAre.cons _ _ ?_)
section
variable {prog : Program} {w : World} {A : Around} {E : Value → Shared → Prop} {s : Shared} {h₀ : Heap} {L : Addr} {m : Str → Option Value} {Q : Value → Shared → Prop} {x : Str} {t : Tok} {b : Bool}
theorem sgn2_notin (F : Fr h₀ L s.heap m) (X₀ : (Mine.K1 w.params).In h₀) (hb : sgn2 x = b) (h : Q (.bool (!b)) s) : wpAny (model prog w) A (compareOp .NotIn (.str x t) (.ref 94)) Q E s := by
  obtain ⟨items, ht, hi⟩ := sgn2_tup (X₀.keeps F.keep)
  exact notin_tuple_strs ht hi (by show Q (.bool (!(sgn2 x))) s; rw [hb]; exact h)
theorem sgn2_in (F : Fr h₀ L s.heap m) (X₀ : (Mine.K1 w.params).In h₀) (hb : sgn2 x = b) (h : Q (.bool b) s) : wpAny (model prog w) A (compareOp .In (.str x t) (.ref 94)) Q E s := by
  obtain ⟨items, ht, hi⟩ := sgn2_tup (X₀.keeps F.keep)
  exact in_tuple_strs ht hi (by show Q (.bool (sgn2 x)) s; rw [hb]; exact h)
end
noncomputable def isFree (g : PW) : Bool := (g.kind.cps.toList == (Str.ofString "name").cps.toList) && !resv g.txt
noncomputable def isPlain (g : PW) : Bool := isFree g && !joinw g.txt
end
section
variable {prog : Program} {w : World} {p : Program} {loose : List Str} {mean : ExcName → Option Value} {mg mb : Str → Option Value}
  {dp un : Nat} {gd : Option (List Code)} {cn : Str} {cs : Scope} {a : Addr} {ccd : Value} {cl : List (Str × Addr)} {outer : List Env} {A₀ : Around} {base h₀ : Heap} {L : Addr} {m : Str → Option Value} {s : Shared}
  {Q E : Value → Shared → Prop} {rest : List (Addr × Obj)}
theorem kw_St1 : True := by
  w_top off
  k_with_none
  k_with "~k_all" => (first | with_reducible assumption | exact ne_of_allLt (by with_reducible assumption) | assumption | exact ne_of_allLt (by assumption))
  k_with "~memr" => (first | (with_reducible exact List.mem_cons_self ..) | ((with_reducible refine List.mem_cons_of_mem _ ?_); walk_at "memr") | (with_reducible assumption) | ((with_reducible refine List.mem_append_left _ ?_); walk_at "memr") | ((with_reducible refine List.mem_append_right _ ?_); walk_at "memr"))
  k_with "~memd" => (first | exact List.mem_cons_self .. | (refine List.mem_cons_of_mem _ ?_; walk_at "memd") | (refine List.mem_append.mpr (Or.inl ?_); walk_at "memd") | (refine List.mem_append.mpr (Or.inr ?_); walk_at "memd") | assumption)
  k_with "~k_mem" => (first | walk_at "memr" | walk_at "memd")
  k_with "~k_in" => (first | with_reducible assumption | exact Frag.In.keeps (by with_reducible assumption) (Fr.keep (by with_reducible assumption)))
  k_with "~k_room" => (((try simp only [depth_under_make, depth_under_kw, depth_in1, depth_deeper, depth_caller]); (try dsimp only [ktrTop]); first | walk_at "room" | omega))
  k_with "~mul_fits" => (k_dflt (exact mulOk_fmod _ _))
  k_with "~exec Raise some none" => ((k_here; (with_reducible show wpAny _ _ (exec (Stmt.Raise (some (Expr.Call (Expr.Name (Str.ofString "ParseError") _) _ _ _)) none _) _) _ _ _); refine Raise_E rfl ?_))
  k_with "~RaiseBack" => ((k_dflt (refine' RaiseBack.intro ?k1_8 ?k2_8 ?k3_8 ?k4_8 ?k5_8 ?_; (case k1_8 => k_asm); (case k2_8 => k_asm); (case k3_8 => k_asm); (case k4_8 => k_is); (case k5_8 => k_mem))))
  k_with "~call ref" => ((k_here; (with_reducible show wpAny _ _ (call (Value.ref 91) _ _) _ _ _); k_dflt (refine' call_excE ?k1_9 ?k2_9 ?k3_9 ?k4_9 ?k5_9 ?k6_9 ?k7_9 ?k8_9 ?k9_9 ?_; (case k1_9 => k_asm); (case k2_9 => k_asm); (case k3_9 => k_asm); (case k4_9 => k_is); (case k5_9 => k_is); (case k6_9 => k_is); (case k7_9 => k_is); (case k8_9 => k_is); (case k9_9 => size_fits); k_whole; intro e' t' h' F' N' l1 l2 l3; (try k_lt l1); (try k_lt2 l2); (try k_lt l3); (try k_sweep); (try dsimp only); k_enter)))
  k_with "~instx" => (first | (refine' inst_exc ?N_10 ?h1_10 ?h2_10; (case N_10 => with_reducible assumption); (case h1_10 => walk_at "memr"); (case h2_10 => walk_at "memr")) | (refine' inst_exc2 ?N_10 ?h1_10 ?hc_10 ?hd_10 ?hn_10 ?h2_10; (case hc_10 => with_reducible assumption); (case hd_10 => with_reducible assumption); (case hn_10 => with_reducible assumption); (case N_10 => with_reducible assumption); (case h1_10 => walk_at "memr"); (case h2_10 => walk_at "memr")))
  k_with "~instn" => ((refine' InstAt.of_news ?N_11 ?h1_11 ?h2_11; (case N_11 => with_reducible assumption); (case h1_11 => walk_at "memr"); (case h2_11 => walk_at "memr")))
  k_with "~k_inst" => (first | walk_at "instn" | walk_at "instx")
  k_with "~setAttr ref" => ((k_here; k_dflt (first | (refine' setE_new ?k1_13 ?k2_13 ?k3_13 ?k4_13 ?k5_13 ?k6_13 ?k6b_13 ?k7_13 ?k8_13 ?k9_13 ?k10_13 ?_; (case k1_13 => k_asm); (case k2_13 => k_asm); (case k3_13 => k_asm); (case k4_13 => k_all); (case k5_13 => k_is); (case k6_13 => k_is); (case k6b_13 => exact rfl); (case k7_13 => k_is); (case k8_13 => k_is); (case k9_13 => k_put); (case k10_13 => exact Nat.le_of_ble_eq_true rfl); k_whole; intro h' dx' F' N' l1 l2; (try k_lt l1); (try k_lt2 l2); (try k_sweep); (try dsimp only)) | (refine' setE_old ?k1_13 ?k2_13 ?k3_13 ?k4_13 ?k5_13 ?k6_13 ?k7_13 ?k7b_13 ?k8_13 ?k9_13 ?k10_13 ?k11_13 ?k12_13 ?k13_13 ?_; (case k1_13 => k_asm); (case k2_13 => k_asm); (case k3_13 => k_asm); (case k4_13 => walk_at "instx"); (case k5_13 => exact rfl); (case k6_13 => k_is); (case k7_13 => k_is); (case k7b_13 => exact rfl); (case k8_13 => k_is); (case k9_13 => k_is); (case k10_13 => k_get); (case k11_13 => k_put); (case k12_13 => k_upd); (case k13_13 => exact Nat.le_of_ble_eq_true rfl); k_whole; intro h' F' N'; (try k_sweep); (try dsimp only)))))
  k_with "~getAttr ref" => ((k_here; k_dflt (refine' getE ?k1_14 ?k2_14 ?k3_14 ?k4_14 ?k5_14 ?k6_14 ?k7_14 ?k8_14 ?k9_14 ?k10_14 ?_; (case k1_14 => k_asm); (case k2_14 => k_asm); (case k3_14 => walk_at "instx"); (case k4_14 => k_is); (case k5_14 => k_is); (case k6_14 => k_is); (case k7_14 => k_is); (case k8_14 => k_is); (case k9_14 => k_get); (case k10_14 => k_handed); k_whole)))
  k_with "~getAttr ref" => ((k_here; k_dflt (refine' get_own ?k1_15 ?k2_15 ?k3_15 ?k4_15 ?k5_15 ?k6_15 ?k7_15 ?k8_15 ?k9_15 ?_; (case k1_15 => k_asm); (case k2_15 => k_asm); (case k3_15 => walk_at "instn"); (case k4_15 => k_is); (case k5_15 => k_is); (case k6_15 => k_is); (case k7_15 => k_is); (case k8_15 => k_get); (case k9_15 => k_handed); k_whole)))
  k_with "~leaving ref" => ((k_here; k_dflt (first | (refine' leave_raiseD2 ?k1_16 ?k2_16 ?k3_16 ?k4_16 ?_; (case k1_16 => k_asm); (case k2_16 => k_asm); (case k3_16 => k_asm); (case k4_16 => k_all); k_whole; intro h' R' U'; (try dsimp only at R' U' ⊢)) | (refine' leave_onD ?k1_16 ?k2_16 ?k3_16 ?k4_16 ?_; (case k3_16 => k_asm); (case k2_16 => k_asm); (case k1_16 => k_asm); (case k4_16 => k_asm); k_whole; intro h' R' U'; (try dsimp only at R' U' ⊢)))))
  k_with "~subscriptTail Attribute Name Attribute ref int" => ((k_here; (with_reducible show wpAny _ _ (subscriptTail _ _ (Value.ref _) (Value.int _ _)) _ _ _); k_dflt (refine' item_ctx ?k1_17 ?k2_17 ?k3_17 ?k4_17 ?k5_17 ?_ ?k6_17; (case k1_17 => k_asm); (case k2_17 => k_mem); (case k3_17 => omega); (case k4_17 => omega); (case k5_17 => k_asm); (case k6_17 => with_unfolding_all rfl); k_whole)))
  k_with "~compareOp Eq str str" => ((k_here; k_dflt (refine eq_ctx (by k_asm) ?_)))
  k_with "~compareOp NotEq str str" => ((k_here; k_dflt (refine ne_ctx (by k_asm) ?_)))
  k_with "~call type:str" => ((k_here; (with_reducible show wpAny _ _ (call (Value.type "str") [Value.int _ _]) _ _ _); k_dflt (refine PySem.P.str_of_int (log_small (by k_asm) (by k_asm)) ?_)))
  k_with "~compareOp NotIn str ref" => ((k_here; k_dflt (first | refine resv_notin (by k_asm) (by k_asm) (by k_asm) ?_ | refine joinw_notin (by k_asm) (by k_asm) (by k_asm) ?_)))
  k_with "~compareOp In str ref" => ((k_here; k_dflt (refine sgn2_in (by k_asm) (by k_asm) (by k_asm) ?_)))
  k_with "~size_fits" => (exact size1000 (by k_asm))
  k_with "~subscriptTail Attribute Name Attribute str int" => ((k_here; (with_reducible show wpAny _ _ (subscriptTail _ _ (Value.str _ _) (Value.int _ _)) _ _ _); k_dflt (refine item_sctx (by k_asm) (by k_asm) ?_)))
  k_with "~compareOp In str str" => ((k_here; k_dflt (refine in_sctx (by k_asm) ?_)))
  k_with "~call builtin:ord" => ((k_here; (with_reducible show wpAny _ _ (call (Value.builtin "ord") [Value.str ⟨#[_]⟩ _]) _ _ _); refine ord_sctx ?_))
  k_with "~TurnI" => ((k_dflt (refine' TurnI.intro ?k1_27 ?k2_27 ?k3_27 ?k4_27; (case k1_27 => k_asm); (case k2_27 => k_asm); (case k3_27 => exact rfl); (case k4_27 => (intro z hz; simp [hz])))))
  k_with "~call builtin:str.isascii" => ((k_here; refine isascii_ctx (by k_asm) ?_))
  k_with "~subscriptTail Name Name str int" => ((k_here; k_dflt (refine item_sctx (by k_asm) (by k_asm) ?_)))
  k_with "~subscriptTail Attribute Name Slice str ref" => ((walk_at "last subscriptTail"))
  k_with "~storeName" => ((k_here; k_dflt (refine' storeX_L ?F_31 ?N_31 ?_ ?a_31 ?b_31; (case F_31 => k_asm); (case N_31 => k_asm); (case a_31 => rfl); (case b_31 => rfl); k_whole; intro h' F' N'; (try k_sweep); (try dsimp only))))
  k_with "~execs cons" => ((k_here; k_fold))
  k_with "~room" => (first | exact room1 (by with_reducible assumption) (Nat.le_of_ble_eq_true rfl) | exact room0 (by with_reducible assumption) (Nat.le_of_ble_eq_true rfl) | exact room2 (by with_reducible assumption) (Nat.le_of_ble_eq_true rfl))
  k_with "~ltc" => (first | (with_reducible assumption) | (with_reducible exact And.left (by with_reducible assumption)) | (with_reducible exact And.left (And.right (by with_reducible assumption))) | (with_reducible exact And.left (And.right (And.right (by with_reducible assumption)))) | (with_reducible exact And.left (And.right (And.right (And.right (by with_reducible assumption))))) | (with_reducible exact And.left (And.right (And.right (And.right (And.right (by with_reducible assumption)))))) | (with_reducible exact And.left (And.right (And.right (And.right (And.right (And.right (by with_reducible assumption))))))) | (with_reducible exact And.left (And.right (And.right (And.right (And.right (And.right (And.right (by with_reducible assumption)))))))) | (with_reducible exact (And.right (by with_reducible assumption))) | (with_reducible exact (And.right (And.right (by with_reducible assumption)))))
  k_with "~k_ne" => (((refine neN ?_); (try dsimp only); first | (with_reducible exact Nat.ne_of_lt (by walk_at "ltc")) | (with_reducible exact Nat.ne_of_gt (by walk_at "ltc"))))
  trivial
set_option maxHeartbeats 8000000 in
theorem takeG_ok {st dst lw lh : Addr} {k1 k2 k3 k4 t1 t3 : Tok} {text : Str} {k nl : Nat} {items : Array Value} {ws : List PW} {g : PW} {t : Str} {tt : Tok}
  (B : Below A₀ base outer h₀) (F : Fr h₀ L s.heap m) (X : (Mine.K1 w.params).In h₀) (N : News h₀ L s.heap ((dst, streamD w.params k1 k2 k3 k4 t1 t3 text lw lh (k : Int)) :: rest)) (T : Top p loose mean mg mb h₀) (hk : cs.kind = .function)
  (hr : ∀ p ∈ rest, p.1 ≠ dst) (h1 : (st, instObj 413 dst) ∈ rest) (h2 : (lw, listOf items nl) ∈ rest) (W : WordsIn w.params rest items ws) (hkk : k < 100000) (hw : ws[k]? = some g)
  (hd : dp + 5 < recursionLimit)
  (hretY : isSgn g t = true → ∀ t3' h' tk', Fr h₀ L h' m → News h₀ L h' ((dst, streamD w.params k1 k2 k3 k4 t1 t3' text lw lh ((k + 1 : Nat) : Int)) :: rest) → Q (.bool true) { s with heap := h', toks := tk' })
  (hretN : isSgn g t = false → ∀ h' tk', Fr h₀ L h' m → News h₀ L h' ((dst, streamD w.params k1 k2 k3 k4 t1 t3 text lw lh (k : Int)) :: rest) → Q (.bool false) { s with heap := h', toks := tk' }) :
  wpAny (model prog w) (ktrTop dp un gd cn cs L a ccd cl outer) (call (.ref 368) [.ref st, .str t tt]) Q E s := by
  obtain ⟨x, dx, j1, j2, j3, j4, u1, u2, u3, u4, hi, hx, hdx⟩ := W k g hw
  obtain ⟨b1, e1⟩ : ∃ b, (g.kind.cps.toList == (Str.ofString "sign").cps.toList) = b := ⟨_, rfl⟩
  obtain ⟨b2, e2⟩ : ∃ b, (g.txt.cps.toList == t.cps.toList) = b := ⟨_, rfl⟩
  have hs : isSgn g t = (b1 && b2) := by unfold isSgn; rw [e1, e2]
  have hi' : items[((k : Int)).toNat]? = some (.ref x) := by simpa using hi
  refine wpAny_call ?_
  k_dflt ktr_enter
  k_steps
  all_goals first
    | exact hretY (by rw [hs]; simp [*]) _ _ _ (by k_asm) (by k_asm)
    | exact hretN (by rw [hs]; simp [*]) _ _ (by k_asm) (by k_asm)
theorem take_yes {st dst lw lh : Addr} {k1 k2 k3 k4 t1 t3 : Tok} {text : Str} {k nl : Nat} {items : Array Value} {ws : List PW} {g : PW} {t : Str} {tt : Tok}
  (B : Below A₀ base outer h₀) (F : Fr h₀ L s.heap m) (X : (Mine.K1 w.params).In h₀) (N : News h₀ L s.heap ((dst, streamD w.params k1 k2 k3 k4 t1 t3 text lw lh (k : Int)) :: rest)) (T : Top p loose mean mg mb h₀) (hk : cs.kind = .function)
  (hr : ∀ p ∈ rest, p.1 ≠ dst) (h1 : (st, instObj 413 dst) ∈ rest) (h2 : (lw, listOf items nl) ∈ rest) (W : WordsIn w.params rest items ws) (hkk : k < 100000) (hw : ws[k]? = some g) (hs : isSgn g t = true)
  (hd : dp + 5 < recursionLimit)
  (hret : ∀ t3' h' tk', Fr h₀ L h' m → News h₀ L h' ((dst, streamD w.params k1 k2 k3 k4 t1 t3' text lw lh ((k + 1 : Nat) : Int)) :: rest) → Q (.bool true) { s with heap := h', toks := tk' }) :
  wpAny (model prog w) (ktrTop dp un gd cn cs L a ccd cl outer) (call (.ref 368) [.ref st, .str t tt]) Q E s :=
  takeG_ok B F X N T hk hr h1 h2 W hkk hw hd (fun _ => hret) (fun h => absurd (hs.symm.trans h) (by decide))
theorem take_no {st dst lw lh : Addr} {k1 k2 k3 k4 t1 t3 : Tok} {text : Str} {k nl : Nat} {items : Array Value} {ws : List PW} {g : PW} {t : Str} {tt : Tok}
  (B : Below A₀ base outer h₀) (F : Fr h₀ L s.heap m) (X : (Mine.K1 w.params).In h₀) (N : News h₀ L s.heap ((dst, streamD w.params k1 k2 k3 k4 t1 t3 text lw lh (k : Int)) :: rest)) (T : Top p loose mean mg mb h₀) (hk : cs.kind = .function)
  (hr : ∀ p ∈ rest, p.1 ≠ dst) (h1 : (st, instObj 413 dst) ∈ rest) (h2 : (lw, listOf items nl) ∈ rest) (W : WordsIn w.params rest items ws) (hkk : k < 100000) (hw : ws[k]? = some g) (hs : isSgn g t = false)
  (hd : dp + 5 < recursionLimit)
  (hret : ∀ h' tk', Fr h₀ L h' m → News h₀ L h' ((dst, streamD w.params k1 k2 k3 k4 t1 t3 text lw lh (k : Int)) :: rest) → Q (.bool false) { s with heap := h', toks := tk' }) :
  wpAny (model prog w) (ktrTop dp un gd cn cs L a ccd cl outer) (call (.ref 368) [.ref st, .str t tt]) Q E s :=
  takeG_ok B F X N T hk hr h1 h2 W hkk hw hd (fun h => absurd (hs.symm.trans h) (by decide)) (fun _ => hret)
end
section
variable {prog : Program} {w : World} {p : Program} {loose : List Str} {mean : ExcName → Option Value} {mg mb : Str → Option Value}
  {dp un : Nat} {gd : Option (List Code)} {cn : Str} {cs : Scope} {a : Addr} {ccd : Value} {cl : List (Str × Addr)} {outer : List Env} {A₀ : Around} {base h₀ : Heap} {L : Addr} {m : Str → Option Value} {s : Shared}
  {Q E : Value → Shared → Prop} {rest : List (Addr × Obj)}
theorem kw_St0 : True := by
  w_top off
  k_with_none
  k_with "~k_all" => (first | with_reducible assumption | exact ne_of_allLt (by with_reducible assumption) | assumption | exact ne_of_allLt (by assumption))
  k_with "~memr" => (first | (with_reducible exact List.mem_cons_self ..) | ((with_reducible refine List.mem_cons_of_mem _ ?_); walk_at "memr") | (with_reducible assumption) | ((with_reducible refine List.mem_append_left _ ?_); walk_at "memr") | ((with_reducible refine List.mem_append_right _ ?_); walk_at "memr"))
  k_with "~memd" => (first | exact List.mem_cons_self .. | (refine List.mem_cons_of_mem _ ?_; walk_at "memd") | (refine List.mem_append.mpr (Or.inl ?_); walk_at "memd") | (refine List.mem_append.mpr (Or.inr ?_); walk_at "memd") | assumption)
  k_with "~k_mem" => (first | walk_at "memr" | walk_at "memd")
  k_with "~k_in" => (first | with_reducible assumption | exact Frag.In.keeps (by with_reducible assumption) (Fr.keep (by with_reducible assumption)))
  k_with "~k_room" => (((try simp only [depth_under_make, depth_under_kw, depth_in1, depth_deeper, depth_caller]); (try dsimp only [ktrTop]); first | walk_at "room" | omega))
  k_with "~mul_fits" => (k_dflt (exact mulOk_fmod _ _))
  k_with "~exec Raise some none" => ((k_here; (with_reducible show wpAny _ _ (exec (Stmt.Raise (some (Expr.Call (Expr.Name (Str.ofString "ParseError") _) _ _ _)) none _) _) _ _ _); refine Raise_E rfl ?_))
  k_with "~RaiseBack" => ((k_dflt (refine' RaiseBack.intro ?k1_8 ?k2_8 ?k3_8 ?k4_8 ?k5_8 ?_; (case k1_8 => k_asm); (case k2_8 => k_asm); (case k3_8 => k_asm); (case k4_8 => k_is); (case k5_8 => k_mem))))
  k_with "~call ref" => ((k_here; (with_reducible show wpAny _ _ (call (Value.ref 91) _ _) _ _ _); k_dflt (refine' call_excE ?k1_9 ?k2_9 ?k3_9 ?k4_9 ?k5_9 ?k6_9 ?k7_9 ?k8_9 ?k9_9 ?_; (case k1_9 => k_asm); (case k2_9 => k_asm); (case k3_9 => k_asm); (case k4_9 => k_is); (case k5_9 => k_is); (case k6_9 => k_is); (case k7_9 => k_is); (case k8_9 => k_is); (case k9_9 => size_fits); k_whole; intro e' t' h' F' N' l1 l2 l3; (try k_lt l1); (try k_lt2 l2); (try k_lt l3); (try k_sweep); (try dsimp only); k_enter)))
  k_with "~instx" => (first | (refine' inst_exc ?N_10 ?h1_10 ?h2_10; (case N_10 => with_reducible assumption); (case h1_10 => walk_at "memr"); (case h2_10 => walk_at "memr")) | (refine' inst_exc2 ?N_10 ?h1_10 ?hc_10 ?hd_10 ?hn_10 ?h2_10; (case hc_10 => with_reducible assumption); (case hd_10 => with_reducible assumption); (case hn_10 => with_reducible assumption); (case N_10 => with_reducible assumption); (case h1_10 => walk_at "memr"); (case h2_10 => walk_at "memr")))
  k_with "~instn" => ((refine' InstAt.of_news ?N_11 ?h1_11 ?h2_11; (case N_11 => with_reducible assumption); (case h1_11 => walk_at "memr"); (case h2_11 => walk_at "memr")))
  k_with "~k_inst" => (first | walk_at "instn" | walk_at "instx")
  k_with "~setAttr ref" => ((k_here; k_dflt (first | (refine' setE_new ?k1_13 ?k2_13 ?k3_13 ?k4_13 ?k5_13 ?k6_13 ?k6b_13 ?k7_13 ?k8_13 ?k9_13 ?k10_13 ?_; (case k1_13 => k_asm); (case k2_13 => k_asm); (case k3_13 => k_asm); (case k4_13 => k_all); (case k5_13 => k_is); (case k6_13 => k_is); (case k6b_13 => exact rfl); (case k7_13 => k_is); (case k8_13 => k_is); (case k9_13 => k_put); (case k10_13 => exact Nat.le_of_ble_eq_true rfl); k_whole; intro h' dx' F' N' l1 l2; (try k_lt l1); (try k_lt2 l2); (try k_sweep); (try dsimp only)) | (refine' setE_old ?k1_13 ?k2_13 ?k3_13 ?k4_13 ?k5_13 ?k6_13 ?k7_13 ?k7b_13 ?k8_13 ?k9_13 ?k10_13 ?k11_13 ?k12_13 ?k13_13 ?_; (case k1_13 => k_asm); (case k2_13 => k_asm); (case k3_13 => k_asm); (case k4_13 => walk_at "instx"); (case k5_13 => exact rfl); (case k6_13 => k_is); (case k7_13 => k_is); (case k7b_13 => exact rfl); (case k8_13 => k_is); (case k9_13 => k_is); (case k10_13 => k_get); (case k11_13 => k_put); (case k12_13 => k_upd); (case k13_13 => exact Nat.le_of_ble_eq_true rfl); k_whole; intro h' F' N'; (try k_sweep); (try dsimp only)))))
  k_with "~getAttr ref" => ((k_here; k_dflt (refine' getE ?k1_14 ?k2_14 ?k3_14 ?k4_14 ?k5_14 ?k6_14 ?k7_14 ?k8_14 ?k9_14 ?k10_14 ?_; (case k1_14 => k_asm); (case k2_14 => k_asm); (case k3_14 => walk_at "instx"); (case k4_14 => k_is); (case k5_14 => k_is); (case k6_14 => k_is); (case k7_14 => k_is); (case k8_14 => k_is); (case k9_14 => k_get); (case k10_14 => k_handed); k_whole)))
  k_with "~getAttr ref" => ((k_here; k_dflt (refine' get_own ?k1_15 ?k2_15 ?k3_15 ?k4_15 ?k5_15 ?k6_15 ?k7_15 ?k8_15 ?k9_15 ?_; (case k1_15 => k_asm); (case k2_15 => k_asm); (case k3_15 => walk_at "instn"); (case k4_15 => k_is); (case k5_15 => k_is); (case k6_15 => k_is); (case k7_15 => k_is); (case k8_15 => k_get); (case k9_15 => k_handed); k_whole)))
  k_with "~leaving ref" => ((k_here; k_dflt (first | (refine' leave_raiseD2 ?k1_16 ?k2_16 ?k3_16 ?k4_16 ?_; (case k1_16 => k_asm); (case k2_16 => k_asm); (case k3_16 => k_asm); (case k4_16 => k_all); k_whole; intro h' R' U'; (try dsimp only at R' U' ⊢)) | (refine' leave_onD ?k1_16 ?k2_16 ?k3_16 ?k4_16 ?_; (case k3_16 => k_asm); (case k2_16 => k_asm); (case k1_16 => k_asm); (case k4_16 => k_asm); k_whole; intro h' R' U'; (try dsimp only at R' U' ⊢)))))
  k_with "~subscriptTail Attribute Name Attribute ref int" => ((k_here; (with_reducible show wpAny _ _ (subscriptTail _ _ (Value.ref _) (Value.int _ _)) _ _ _); k_dflt (refine' item_ctx ?k1_17 ?k2_17 ?k3_17 ?k4_17 ?k5_17 ?_ ?k6_17; (case k1_17 => k_asm); (case k2_17 => k_mem); (case k3_17 => omega); (case k4_17 => omega); (case k5_17 => k_asm); (case k6_17 => with_unfolding_all rfl); k_whole)))
  k_with "~compareOp Eq str str" => ((k_here; k_dflt (refine eq_ctx (by k_asm) ?_)))
  k_with "~compareOp NotEq str str" => ((k_here; k_dflt (refine ne_ctx (by k_asm) ?_)))
  k_with "~call type:str" => ((k_here; (with_reducible show wpAny _ _ (call (Value.type "str") [Value.int _ _]) _ _ _); k_dflt (refine PySem.P.str_of_int (log_small (by k_asm) (by k_asm)) ?_)))
  k_with "~compareOp NotIn str ref" => ((k_here; k_dflt (first | refine resv_notin (by k_asm) (by k_asm) (by k_asm) ?_ | refine joinw_notin (by k_asm) (by k_asm) (by k_asm) ?_)))
  k_with "~compareOp In str ref" => ((k_here; k_dflt (refine sgn2_in (by k_asm) (by k_asm) (by k_asm) ?_)))
  k_with "~size_fits" => (exact size1000 (by k_asm))
  k_with "~subscriptTail Attribute Name Attribute str int" => ((k_here; (with_reducible show wpAny _ _ (subscriptTail _ _ (Value.str _ _) (Value.int _ _)) _ _ _); k_dflt (refine item_sctx (by k_asm) (by k_asm) ?_)))
  k_with "~compareOp In str str" => ((k_here; k_dflt (refine in_sctx (by k_asm) ?_)))
  k_with "~call builtin:ord" => ((k_here; (with_reducible show wpAny _ _ (call (Value.builtin "ord") [Value.str ⟨#[_]⟩ _]) _ _ _); refine ord_sctx ?_))
  k_with "~TurnI" => ((k_dflt (refine' TurnI.intro ?k1_27 ?k2_27 ?k3_27 ?k4_27; (case k1_27 => k_asm); (case k2_27 => k_asm); (case k3_27 => exact rfl); (case k4_27 => (intro z hz; simp [hz])))))
  k_with "~call builtin:str.isascii" => ((k_here; refine isascii_ctx (by k_asm) ?_))
  k_with "~subscriptTail Name Name str int" => ((k_here; k_dflt (refine item_sctx (by k_asm) (by k_asm) ?_)))
  k_with "~subscriptTail Attribute Name Slice str ref" => ((walk_at "last subscriptTail"))
  k_with "~storeName" => ((k_here; k_dflt (refine' storeX_L ?F_31 ?N_31 ?_ ?a_31 ?b_31; (case F_31 => k_asm); (case N_31 => k_asm); (case a_31 => rfl); (case b_31 => rfl); k_whole; intro h' F' N'; (try k_sweep); (try dsimp only))))
  k_with "~execs cons" => ((k_here; k_fold))
  k_with "~room" => (first | exact room1 (by with_reducible assumption) (Nat.le_of_ble_eq_true rfl) | exact room0 (by with_reducible assumption) (Nat.le_of_ble_eq_true rfl) | exact room2 (by with_reducible assumption) (Nat.le_of_ble_eq_true rfl))
  k_with "~ltc" => (first | (with_reducible assumption) | (with_reducible exact And.left (by with_reducible assumption)) | (with_reducible exact And.left (And.right (by with_reducible assumption))) | (with_reducible exact And.left (And.right (And.right (by with_reducible assumption)))) | (with_reducible exact And.left (And.right (And.right (And.right (by with_reducible assumption))))) | (with_reducible exact And.left (And.right (And.right (And.right (And.right (by with_reducible assumption)))))) | (with_reducible exact And.left (And.right (And.right (And.right (And.right (And.right (by with_reducible assumption))))))) | (with_reducible exact And.left (And.right (And.right (And.right (And.right (And.right (And.right (by with_reducible assumption)))))))) | (with_reducible exact (And.right (by with_reducible assumption))) | (with_reducible exact (And.right (And.right (by with_reducible assumption)))))
  k_with "~k_ne" => (((refine neN ?_); (try dsimp only); first | (with_reducible exact Nat.ne_of_lt (by walk_at "ltc")) | (with_reducible exact Nat.ne_of_gt (by walk_at "ltc"))))
  trivial
theorem news_sw0 {h₀ h : Heap} {L : Addr} {a b : Addr × Obj} {tl : List (Addr × Obj)} (N : News h₀ L h (a :: b :: tl)) : News h₀ L h (b :: a :: tl) := fun p hp => N p (by
  rcases List.mem_cons.mp hp with rfl | hp
  · exact List.mem_cons_of_mem _ List.mem_cons_self
  · rcases List.mem_cons.mp hp with rfl | hp
    · exact List.mem_cons_self
    · exact List.mem_cons_of_mem _ (List.mem_cons_of_mem _ hp))
set_option maxHeartbeats 8000000 in
theorem here_ok {st dst lw lh x : Addr} {k1 k2 k3 k4 t1 t3 : Tok} {text : Str} {k nl : Nat} {items : Array Value}
  (B : Below A₀ base outer h₀) (F : Fr h₀ L s.heap m) (X : (Mine.K1 w.params).In h₀) (N : News h₀ L s.heap rest) (T : Top p loose mean mg mb h₀) (hk : cs.kind = .function)
  (h1 : (st, instObj 413 dst) ∈ rest) (h0 : (dst, streamD w.params k1 k2 k3 k4 t1 t3 text lw lh (k : Int)) ∈ rest) (h2 : (lw, listOf items nl) ∈ rest) (hkk : k < 100000) (hi' : items[((k : Nat) : Int).toNat]? = some (.ref x))
  (hd : dp + 2 < recursionLimit)
  (hret : ∀ h' tk', Fr h₀ L h' m → News h₀ L h' rest → Q (.ref x) { s with heap := h', toks := tk' }) :
  wpAny (model prog w) (ktrTop dp un gd cn cs L a ccd cl outer) (call (.ref 298) [.ref st]) Q E s := by
  refine wpAny_call ?_
  k_dflt ktr_enter
  k_steps
  exact hret _ _ (by k_asm) (by k_asm)
set_option maxHeartbeats 8000000 in
theorem free_ok {x dx : Addr} {j1 j2 j3 j4 u1 u2 u4 : Tok} {g : PW} {b : Bool} {v : Value} {pl : Int}
  (B : Below A₀ base outer h₀) (F : Fr h₀ L s.heap m) (X : (Mine.K1 w.params).In h₀) (N : News h₀ L s.heap rest) (T : Top p loose mean mg mb h₀) (hk : cs.kind = .function)
  (hb : isFree g = b) (hx : (x, instObj 161 dx) ∈ rest) (hdx : (dx, wordD w.params j1 j2 j3 j4 u1 u2 u4 g.kind g.txt v pl) ∈ rest)
  (hd : dp + 2 < recursionLimit)
  (hret : ∀ h' tk', Fr h₀ L h' m → News h₀ L h' rest → Q (.bool b) { s with heap := h', toks := tk' }) :
  wpAny (model prog w) (ktrTop dp un gd cn cs L a ccd cl outer) (call (.ref 144) [.ref x]) Q E s := by
  obtain ⟨gk, gt, gv, gp⟩ := g
  dsimp only at hdx
  unfold isFree at hb
  dsimp only at hb
  obtain ⟨b1, hq⟩ : ∃ c, (gk.cps.toList == (Str.ofString "name").cps.toList) = c := ⟨_, rfl⟩
  obtain ⟨c, hv⟩ : ∃ c, resv gt = c := ⟨_, rfl⟩
  rw [hq, hv] at hb
  refine wpAny_call ?_
  k_dflt ktr_enter
  k_steps
  all_goals first
    | (have e9 : b1 = b := by rw [← hb]; simp [*]
       subst e9; exact hret _ _ (by k_asm) (by k_asm))
    | (have e9 : false = b := by rw [← hb]; simp [*]
       subst e9; exact hret _ _ (by k_asm) (by k_asm))
    | (have e9 : (!c) = b := by rw [← hb]; simp [*]
       subst e9; exact hret _ _ (by k_asm) (by k_asm))
theorem kw_St00 : True := by
  k_with "~call ref" => ((k_here; (with_reducible show wpAny _ _ (call (Value.ref 144) _) _ _ _); k_dflt (refine' free_ok ?k1_36 ?k2_36 ?k3_36 ?k4_36 ?k5_36 ?k6_36 ?k7_36 ?k8_36 ?k9_36 ?k13_36 ?_; (case k7_36 => k_asm); (case k1_36 => k_asm); (case k2_36 => k_asm); (case k3_36 => k_asm); (case k4_36 => k_asm); (case k5_36 => k_asm); (case k6_36 => first | exact rfl | assumption); (case k8_36 => k_mem); (case k9_36 => k_mem); (case k13_36 => k_room); k_whole; intro h' tk' F' N'; (try k_sweep); (try dsimp only))))
  trivial
set_option maxHeartbeats 8000000 in
theorem plain_ok {x dx : Addr} {j1 j2 j3 j4 u1 u2 u4 : Tok} {g : PW} {b : Bool} {v : Value} {pl : Int}
  (B : Below A₀ base outer h₀) (F : Fr h₀ L s.heap m) (X : (Mine.K1 w.params).In h₀) (N : News h₀ L s.heap rest) (T : Top p loose mean mg mb h₀) (hk : cs.kind = .function)
  (hb : isPlain g = b) (hx : (x, instObj 161 dx) ∈ rest) (hdx : (dx, wordD w.params j1 j2 j3 j4 u1 u2 u4 g.kind g.txt v pl) ∈ rest)
  (hd : dp + 4 < recursionLimit)
  (hret : ∀ h' tk', Fr h₀ L h' m → News h₀ L h' rest → Q (.bool b) { s with heap := h', toks := tk' }) :
  wpAny (model prog w) (ktrTop dp un gd cn cs L a ccd cl outer) (call (.ref 151) [.ref x]) Q E s := by
  unfold isPlain at hb
  obtain ⟨b1, hq⟩ : ∃ c, isFree g = c := ⟨_, rfl⟩
  obtain ⟨c, hv⟩ : ∃ c, joinw g.txt = c := ⟨_, rfl⟩
  rw [hq, hv] at hb
  refine wpAny_call ?_
  k_dflt ktr_enter
  k_steps
  all_goals first
    | (have e9 : b1 = b := by rw [← hb]; simp [*]
       subst e9; exact hret _ _ (by k_asm) (by k_asm))
    | (have e9 : false = b := by rw [← hb]; simp [*]
       subst e9; exact hret _ _ (by k_asm) (by k_asm))
    | (have e9 : (!c) = b := by rw [← hb]; simp [*]
       subst e9; exact hret _ _ (by k_asm) (by k_asm))
theorem kw_St01 : True := by
  k_with "~call ref" => ((k_here; (with_reducible show wpAny _ _ (call (Value.ref 298) _) _ _ _); k_dflt (refine' here_ok ?k1_37 ?k2_37 ?k3_37 ?k4_37 ?k5_37 ?k6_37 ?k8_37 ?k7_37 ?k9_37 ?k11_37 ?k12_37 ?k13_37 ?_; (case k1_37 => k_asm); (case k2_37 => k_asm); (case k3_37 => k_asm); (case k4_37 => k_asm); (case k5_37 => k_asm); (case k6_37 => first | exact rfl | assumption); (case k8_37 => k_mem); (case k7_37 => k_mem); (case k9_37 => k_mem); (case k11_37 => omega); (case k12_37 => k_asm); (case k13_37 => k_room); k_whole; intro h' tk' F' N'; (try k_sweep); (try dsimp only))))
  trivial
set_option maxHeartbeats 8000000 in
theorem go_ok {st dst lw lh x dx : Addr} {k1 k2 k3 k4 t1 t3 j1 j2 j3 j4 u1 u2 u4 : Tok} {text kd tx : Str} {k nl : Nat} {pl : Int} {v : Value} {items : Array Value}
  (B : Below A₀ base outer h₀) (F : Fr h₀ L s.heap m) (X : (Mine.K1 w.params).In h₀) (N : News h₀ L s.heap ((dst, streamD w.params k1 k2 k3 k4 t1 t3 text lw lh (k : Int)) :: rest)) (T : Top p loose mean mg mb h₀) (hk : cs.kind = .function)
  (hr : ∀ p ∈ rest, p.1 ≠ dst) (h1 : (st, instObj 413 dst) ∈ rest) (h2 : (lw, listOf items nl) ∈ rest) (hkk : k < 100000) (hi' : items[((k : Nat) : Int).toNat]? = some (.ref x)) (hx : (x, instObj 161 dx) ∈ rest) (hdx : (dx, wordD w.params j1 j2 j3 j4 u1 u2 u4 kd tx v pl) ∈ rest)
  (hq : (kd.cps.toList == (Str.ofString "end").cps.toList) = false) (hd : dp + 2 < recursionLimit)
  (hret : ∀ t3' h' tk', Fr h₀ L h' m → News h₀ L h' ((dst, streamD w.params k1 k2 k3 k4 t1 t3' text lw lh ((k + 1 : Nat) : Int)) :: rest) → Q (.ref x) { s with heap := h', toks := tk' }) :
  wpAny (model prog w) (ktrTop dp un gd cn cs L a ccd cl outer) (call (.ref 312) [.ref st]) Q E s := by
  refine wpAny_call ?_
  k_dflt ktr_enter
  k_steps
  exact hret _ _ _ (by k_asm) (by k_asm)
set_option maxHeartbeats 8000000 in
theorem refuse_ok {st dst lw lh x dx : Addr} {k1 k2 k3 k4 t1 t3 j1 j2 j3 j4 u1 u2 u4 tg : Tok} {text kd tx msg : Str} {k nl : Nat} {pl : Int} {v : Value} {items : Array Value}
  (B : Below A₀ base outer h₀) (F : Fr h₀ L s.heap m) (X : (Mine.K1 w.params).In h₀) (N : News h₀ L s.heap ((dst, streamD w.params k1 k2 k3 k4 t1 t3 text lw lh (k : Int)) :: rest)) (T : Top p loose mean mg mb h₀) (hk : cs.kind = .function)
  (h1 : (st, instObj 413 dst) ∈ rest) (h2 : (lw, listOf items nl) ∈ rest) (hkk : k < 100000) (hi' : items[((k : Nat) : Int).toNat]? = some (.ref x)) (hx : (x, instObj 161 dx) ∈ rest) (hdx : (dx, wordD w.params j1 j2 j3 j4 u1 u2 u4 kd tx v pl) ∈ rest)
  (hd : dp + 8 < recursionLimit)
  (hexc : ∀ e dx g' h' tk' k1 k2 t1 t2, Fr h₀ L g' m → RaisedD base g' (envX cn cs L a ccd cl :: outer) e dx ((dx, perrD w.params k1 k2 t1 t2 msg pl) :: rest) h' → g'.UpToSlots h' → E (.ref e) { s with heap := h', toks := tk' }) :
  wpAny (model prog w) (ktrTop dp un gd cn cs L a ccd cl outer) (call (.ref 319) [.ref st, .str msg tg]) Q E s := by
  refine wpAny_call ?_
  k_dflt ktr_enter
  k_steps
  (rename RaisedD _ _ _ _ _ _ _ => rX)
  exact hexc _ _ _ _ _ _ _ _ _ (by assumption) (rX.less (by intro p9 h9; rcases List.mem_cons.mp h9 with rfl | h9; exact List.mem_cons_self; exact List.mem_cons_of_mem _ (List.mem_cons_of_mem _ (List.mem_cons_of_mem _ h9)))) (by assumption)
end
section
variable {prog : Program} {w : World} {p : Program} {loose : List Str} {mean : ExcName → Option Value} {mg mb : Str → Option Value}
  {dp un : Nat} {gd : Option (List Code)} {cn : Str} {cs : Scope} {a : Addr} {ccd : Value} {cl : List (Str × Addr)} {outer : List Env} {A₀ : Around} {base h₀ : Heap} {L : Addr} {m : Str → Option Value} {s : Shared}
  {Q E : Value → Shared → Prop} {rest : List (Addr × Obj)}
theorem kw_St2 : True := by
  w_top off
  k_with_none
  k_with "~k_all" => (first | with_reducible assumption | exact ne_of_allLt (by with_reducible assumption) | assumption | exact ne_of_allLt (by assumption))
  k_with "~memr" => (first | (with_reducible exact List.mem_cons_self ..) | ((with_reducible refine List.mem_cons_of_mem _ ?_); walk_at "memr") | (with_reducible assumption) | ((with_reducible refine List.mem_append_left _ ?_); walk_at "memr") | ((with_reducible refine List.mem_append_right _ ?_); walk_at "memr"))
  k_with "~memd" => (first | exact List.mem_cons_self .. | (refine List.mem_cons_of_mem _ ?_; walk_at "memd") | (refine List.mem_append.mpr (Or.inl ?_); walk_at "memd") | (refine List.mem_append.mpr (Or.inr ?_); walk_at "memd") | assumption)
  k_with "~k_mem" => (first | walk_at "memr" | walk_at "memd")
  k_with "~k_in" => (first | with_reducible assumption | exact Frag.In.keeps (by with_reducible assumption) (Fr.keep (by with_reducible assumption)))
  k_with "~k_room" => (((try simp only [depth_under_make, depth_under_kw, depth_in1, depth_deeper, depth_caller]); (try dsimp only [ktrTop]); first | walk_at "room" | omega))
  k_with "~mul_fits" => (k_dflt (exact mulOk_fmod _ _))
  k_with "~exec Raise some none" => ((k_here; (with_reducible show wpAny _ _ (exec (Stmt.Raise (some (Expr.Call (Expr.Name (Str.ofString "ParseError") _) _ _ _)) none _) _) _ _ _); refine Raise_E rfl ?_))
  k_with "~RaiseBack" => ((k_dflt (refine' RaiseBack.intro ?k1_8 ?k2_8 ?k3_8 ?k4_8 ?k5_8 ?_; (case k1_8 => k_asm); (case k2_8 => k_asm); (case k3_8 => k_asm); (case k4_8 => k_is); (case k5_8 => k_mem))))
  k_with "~call ref" => ((k_here; (with_reducible show wpAny _ _ (call (Value.ref 91) _ _) _ _ _); k_dflt (refine' call_excE ?k1_9 ?k2_9 ?k3_9 ?k4_9 ?k5_9 ?k6_9 ?k7_9 ?k8_9 ?k9_9 ?_; (case k1_9 => k_asm); (case k2_9 => k_asm); (case k3_9 => k_asm); (case k4_9 => k_is); (case k5_9 => k_is); (case k6_9 => k_is); (case k7_9 => k_is); (case k8_9 => k_is); (case k9_9 => size_fits); k_whole; intro e' t' h' F' N' l1 l2 l3; (try k_lt l1); (try k_lt2 l2); (try k_lt l3); (try k_sweep); (try dsimp only); k_enter)))
  k_with "~instx" => (first | (refine' inst_exc ?N_10 ?h1_10 ?h2_10; (case N_10 => with_reducible assumption); (case h1_10 => walk_at "memr"); (case h2_10 => walk_at "memr")) | (refine' inst_exc2 ?N_10 ?h1_10 ?hc_10 ?hd_10 ?hn_10 ?h2_10; (case hc_10 => with_reducible assumption); (case hd_10 => with_reducible assumption); (case hn_10 => with_reducible assumption); (case N_10 => with_reducible assumption); (case h1_10 => walk_at "memr"); (case h2_10 => walk_at "memr")))
  k_with "~instn" => ((refine' InstAt.of_news ?N_11 ?h1_11 ?h2_11; (case N_11 => with_reducible assumption); (case h1_11 => walk_at "memr"); (case h2_11 => walk_at "memr")))
  k_with "~k_inst" => (first | walk_at "instn" | walk_at "instx")
  k_with "~setAttr ref" => ((k_here; k_dflt (first | (refine' setE_new ?k1_13 ?k2_13 ?k3_13 ?k4_13 ?k5_13 ?k6_13 ?k6b_13 ?k7_13 ?k8_13 ?k9_13 ?k10_13 ?_; (case k1_13 => k_asm); (case k2_13 => k_asm); (case k3_13 => k_asm); (case k4_13 => k_all); (case k5_13 => k_is); (case k6_13 => k_is); (case k6b_13 => exact rfl); (case k7_13 => k_is); (case k8_13 => k_is); (case k9_13 => k_put); (case k10_13 => exact Nat.le_of_ble_eq_true rfl); k_whole; intro h' dx' F' N' l1 l2; (try k_lt l1); (try k_lt2 l2); (try k_sweep); (try dsimp only)) | (refine' setE_old ?k1_13 ?k2_13 ?k3_13 ?k4_13 ?k5_13 ?k6_13 ?k7_13 ?k7b_13 ?k8_13 ?k9_13 ?k10_13 ?k11_13 ?k12_13 ?k13_13 ?_; (case k1_13 => k_asm); (case k2_13 => k_asm); (case k3_13 => k_asm); (case k4_13 => walk_at "instx"); (case k5_13 => exact rfl); (case k6_13 => k_is); (case k7_13 => k_is); (case k7b_13 => exact rfl); (case k8_13 => k_is); (case k9_13 => k_is); (case k10_13 => k_get); (case k11_13 => k_put); (case k12_13 => k_upd); (case k13_13 => exact Nat.le_of_ble_eq_true rfl); k_whole; intro h' F' N'; (try k_sweep); (try dsimp only)))))
  k_with "~getAttr ref" => ((k_here; k_dflt (refine' getE ?k1_14 ?k2_14 ?k3_14 ?k4_14 ?k5_14 ?k6_14 ?k7_14 ?k8_14 ?k9_14 ?k10_14 ?_; (case k1_14 => k_asm); (case k2_14 => k_asm); (case k3_14 => walk_at "instx"); (case k4_14 => k_is); (case k5_14 => k_is); (case k6_14 => k_is); (case k7_14 => k_is); (case k8_14 => k_is); (case k9_14 => k_get); (case k10_14 => k_handed); k_whole)))
  k_with "~getAttr ref" => ((k_here; k_dflt (refine' get_own ?k1_15 ?k2_15 ?k3_15 ?k4_15 ?k5_15 ?k6_15 ?k7_15 ?k8_15 ?k9_15 ?_; (case k1_15 => k_asm); (case k2_15 => k_asm); (case k3_15 => walk_at "instn"); (case k4_15 => k_is); (case k5_15 => k_is); (case k6_15 => k_is); (case k7_15 => k_is); (case k8_15 => k_get); (case k9_15 => k_handed); k_whole)))
  k_with "~leaving ref" => ((k_here; k_dflt (first | (refine' leave_raiseD2 ?k1_16 ?k2_16 ?k3_16 ?k4_16 ?_; (case k1_16 => k_asm); (case k2_16 => k_asm); (case k3_16 => k_asm); (case k4_16 => k_all); k_whole; intro h' R' U'; (try dsimp only at R' U' ⊢)) | (refine' leave_onD ?k1_16 ?k2_16 ?k3_16 ?k4_16 ?_; (case k3_16 => k_asm); (case k2_16 => k_asm); (case k1_16 => k_asm); (case k4_16 => k_asm); k_whole; intro h' R' U'; (try dsimp only at R' U' ⊢)))))
  k_with "~subscriptTail Attribute Name Attribute ref int" => ((k_here; (with_reducible show wpAny _ _ (subscriptTail _ _ (Value.ref _) (Value.int _ _)) _ _ _); k_dflt (refine' item_ctx ?k1_17 ?k2_17 ?k3_17 ?k4_17 ?k5_17 ?_ ?k6_17; (case k1_17 => k_asm); (case k2_17 => k_mem); (case k3_17 => omega); (case k4_17 => omega); (case k5_17 => k_asm); (case k6_17 => with_unfolding_all rfl); k_whole)))
  k_with "~compareOp Eq str str" => ((k_here; k_dflt (refine eq_ctx (by k_asm) ?_)))
  k_with "~compareOp NotEq str str" => ((k_here; k_dflt (refine ne_ctx (by k_asm) ?_)))
  k_with "~call type:str" => ((k_here; (with_reducible show wpAny _ _ (call (Value.type "str") [Value.int _ _]) _ _ _); k_dflt (refine PySem.P.str_of_int (log_small (by k_asm) (by k_asm)) ?_)))
  k_with "~compareOp NotIn str ref" => ((k_here; k_dflt (first | refine resv_notin (by k_asm) (by k_asm) (by k_asm) ?_ | refine joinw_notin (by k_asm) (by k_asm) (by k_asm) ?_)))
  k_with "~compareOp In str ref" => ((k_here; k_dflt (refine sgn2_in (by k_asm) (by k_asm) (by k_asm) ?_)))
  k_with "~size_fits" => (exact size1000 (by k_asm))
  k_with "~subscriptTail Attribute Name Attribute str int" => ((k_here; (with_reducible show wpAny _ _ (subscriptTail _ _ (Value.str _ _) (Value.int _ _)) _ _ _); k_dflt (refine item_sctx (by k_asm) (by k_asm) ?_)))
  k_with "~compareOp In str str" => ((k_here; k_dflt (refine in_sctx (by k_asm) ?_)))
  k_with "~call builtin:ord" => ((k_here; (with_reducible show wpAny _ _ (call (Value.builtin "ord") [Value.str ⟨#[_]⟩ _]) _ _ _); refine ord_sctx ?_))
  k_with "~TurnI" => ((k_dflt (refine' TurnI.intro ?k1_27 ?k2_27 ?k3_27 ?k4_27; (case k1_27 => k_asm); (case k2_27 => k_asm); (case k3_27 => exact rfl); (case k4_27 => (intro z hz; simp [hz])))))
  k_with "~call builtin:str.isascii" => ((k_here; refine isascii_ctx (by k_asm) ?_))
  k_with "~subscriptTail Name Name str int" => ((k_here; k_dflt (refine item_sctx (by k_asm) (by k_asm) ?_)))
  k_with "~subscriptTail Attribute Name Slice str ref" => ((walk_at "last subscriptTail"))
  k_with "~storeName" => ((k_here; k_dflt (refine' storeX_L ?F_31 ?N_31 ?_ ?a_31 ?b_31; (case F_31 => k_asm); (case N_31 => k_asm); (case a_31 => rfl); (case b_31 => rfl); k_whole; intro h' F' N'; (try k_sweep); (try dsimp only))))
  k_with "~execs cons" => ((k_here; k_fold))
  k_with "~room" => (first | exact room1 (by with_reducible assumption) (Nat.le_of_ble_eq_true rfl) | exact room0 (by with_reducible assumption) (Nat.le_of_ble_eq_true rfl) | exact room2 (by with_reducible assumption) (Nat.le_of_ble_eq_true rfl))
  k_with "~ltc" => (first | (with_reducible assumption) | (with_reducible exact And.left (by with_reducible assumption)) | (with_reducible exact And.left (And.right (by with_reducible assumption))) | (with_reducible exact And.left (And.right (And.right (by with_reducible assumption)))) | (with_reducible exact And.left (And.right (And.right (And.right (by with_reducible assumption))))) | (with_reducible exact And.left (And.right (And.right (And.right (And.right (by with_reducible assumption)))))) | (with_reducible exact And.left (And.right (And.right (And.right (And.right (And.right (by with_reducible assumption))))))) | (with_reducible exact And.left (And.right (And.right (And.right (And.right (And.right (And.right (by with_reducible assumption)))))))) | (with_reducible exact (And.right (by with_reducible assumption))) | (with_reducible exact (And.right (And.right (by with_reducible assumption)))))
  k_with "~k_ne" => (((refine neN ?_); (try dsimp only); first | (with_reducible exact Nat.ne_of_lt (by walk_at "ltc")) | (with_reducible exact Nat.ne_of_gt (by walk_at "ltc"))))
  k_with "~posl" => (omega)
  k_with "~call ref" => ((k_here; (with_reducible show wpAny _ _ (call (Value.ref 368) [Value.ref _, Value.str _ _]) _ _ _); k_dflt (first | (refine' take_yes ?k1_40 ?k2_40 ?k3_40 ?k4_40 ?k5_40 ?k6_40 ?k7_40 ?k8_40 ?k9_40 ?k10_40 ?k11_40 ?k12_40 ?k13_40 ?k14_40 ?_; (case k1_40 => k_asm); (case k2_40 => k_asm); (case k3_40 => k_asm); (case k4_40 => k_asm); (case k5_40 => k_asm); (case k6_40 => first | exact rfl | assumption); (case k7_40 => k_all); (case k8_40 => k_mem); (case k9_40 => k_mem); (case k10_40 => assumption); (case k11_40 => walk_at "posl"); (case k12_40 => assumption); (case k13_40 => assumption); (case k14_40 => k_room); k_whole; intro t3' h' tk' F' N'; (try k_sweep); (try dsimp only)) | (refine' take_no ?k1_40 ?k2_40 ?k3_40 ?k4_40 ?k5_40 ?k6_40 ?k7_40 ?k8_40 ?k9_40 ?k10_40 ?k11_40 ?k12_40 ?k13_40 ?k14_40 ?_; (case k1_40 => k_asm); (case k2_40 => k_asm); (case k3_40 => k_asm); (case k4_40 => k_asm); (case k5_40 => k_asm); (case k6_40 => first | exact rfl | assumption); (case k7_40 => k_all); (case k8_40 => k_mem); (case k9_40 => k_mem); (case k10_40 => assumption); (case k11_40 => walk_at "posl"); (case k12_40 => assumption); (case k13_40 => assumption); (case k14_40 => k_room); k_whole; intro h' tk' F' N'; (try k_sweep); (try dsimp only)))))
  k_with "~call ref" => ((k_here; (with_reducible show wpAny _ _ (call (Value.ref 144) _) _ _ _); k_dflt (refine' free_ok ?k1_36 ?k2_36 ?k3_36 ?k4_36 ?k5_36 ?k6_36 ?k7_36 ?k8_36 ?k9_36 ?k13_36 ?_; (case k7_36 => k_asm); (case k1_36 => k_asm); (case k2_36 => k_asm); (case k3_36 => k_asm); (case k4_36 => k_asm); (case k5_36 => k_asm); (case k6_36 => first | exact rfl | assumption); (case k8_36 => k_mem); (case k9_36 => k_mem); (case k13_36 => k_room); k_whole; intro h' tk' F' N'; (try k_sweep); (try dsimp only))))
  k_with "~call ref" => ((k_here; (with_reducible show wpAny _ _ (call (Value.ref 151) _) _ _ _); k_dflt (refine' plain_ok ?k1_41 ?k2_41 ?k3_41 ?k4_41 ?k5_41 ?k6_41 ?k7_41 ?k8_41 ?k9_41 ?k13_41 ?_; (case k7_41 => k_asm); (case k1_41 => k_asm); (case k2_41 => k_asm); (case k3_41 => k_asm); (case k4_41 => k_asm); (case k5_41 => k_asm); (case k6_41 => first | exact rfl | assumption); (case k8_41 => k_mem); (case k9_41 => k_mem); (case k13_41 => k_room); k_whole; intro h' tk' F' N'; (try k_sweep); (try dsimp only))))
  k_with "~call ref" => ((k_here; (with_reducible show wpAny _ _ (call (Value.ref 298) _) _ _ _); k_dflt (refine' here_ok ?k1_42 ?k2_42 ?k3_42 ?k4_42 ?k5_42 ?k6_42 ?k8_42 ?k7_42 ?k9_42 ?k11_42 ?k12_42 ?k13_42 ?_; (case k1_42 => k_asm); (case k2_42 => k_asm); (case k3_42 => k_asm); (case k4_42 => k_asm); (case k5_42 => k_asm); (case k6_42 => first | exact rfl | assumption); (case k8_42 => k_mem); (case k7_42 => k_mem); (case k9_42 => k_mem); (case k11_42 => walk_at "posl"); (case k12_42 => k_asm); (case k13_42 => k_room); k_whole; intro h' tk' F' N'; (try k_sweep); (try dsimp only))))
  k_with "~call ref" => ((k_here; (with_reducible show wpAny _ _ (call (Value.ref 312) _) _ _ _); k_dflt (refine' go_ok ?k1_43 ?k2_43 ?k3_43 ?k4_43 ?k5_43 ?k6_43 ?k7_43 ?k8_43 ?k9_43 ?k11_43 ?k12_43 ?k15_43 ?k16_43 ?k17_43 ?k13_43 ?_; (case k1_43 => k_asm); (case k2_43 => k_asm); (case k3_43 => k_asm); (case k4_43 => first | k_asm | exact news_sw0 (by k_asm)); (case k5_43 => k_asm); (case k6_43 => first | exact rfl | assumption); (case k7_43 => k_all); (case k8_43 => k_mem); (case k9_43 => k_mem); (case k11_43 => walk_at "posl"); (case k12_43 => k_asm); (case k15_43 => k_mem); (case k16_43 => k_mem); (case k17_43 => k_asm); (case k13_43 => k_room); k_whole; intro t3' h' tk' F' N'; (try k_sweep); (try dsimp only))))
  k_with "~call ref" => ((k_here; (with_reducible show wpAny _ _ (call (Value.ref 319) [Value.ref _, Value.str _ _]) _ _ _); k_dflt (refine' refuse_ok ?k1_44 ?k2_44 ?k3_44 ?k4_44 ?k5_44 ?k6_44 ?k8_44 ?k9_44 ?k11_44 ?k12_44 ?k15_44 ?k16_44 ?k13_44 ?_; (case k1_44 => k_asm); (case k2_44 => k_asm); (case k3_44 => k_asm); (case k4_44 => k_asm); (case k5_44 => k_asm); (case k6_44 => first | exact rfl | assumption); (case k8_44 => k_mem); (case k9_44 => k_mem); (case k11_44 => walk_at "posl"); (case k12_44 => k_asm); (case k15_44 => k_mem); (case k16_44 => k_mem); (case k13_44 => k_room); k_whole; intro eZ dxZ gZ hZ tkZ j1Z j2Z u1Z u2Z F' R' U'; (try k_sweep); (try dsimp only))))
  trivial
noncomputable def sizeAt (ws : List PW) (k : Nat) : Nat × Str := match ws[k]? with
  | some g => if isSgn g (Str.ofString "-") then (k + 1, Str.ofString "-") else if isSgn g (Str.ofString "+") then (k + 1, Str.ofString "") else (k, Str.ofString "")
  | none => (k, Str.ofString "")
theorem ne_numk {A : Around} {fk : Str} {fv : WV} {t u : Tok} (hn : fk = Str.ofString "number" → ∃ i, fv = .int i ∧ 0 ≤ i ∧ i ≤ 9223372036854775808) (hA : fk ≠ Str.ofString "number" → Q (.bool true) s) (hB : ∀ i, fk = Str.ofString "number" → fv = .int i → 0 ≤ i → i ≤ 9223372036854775808 → Q (.bool false) s) :
    wpAny (model prog w) A (compareOp .NotEq (.str fk t) (.str (Str.ofString "number") u)) Q E s := by
  rcases hq : (fk.cps.toList == (Str.ofString "number").cps.toList) with _ | _
  · exact ne_ctx hq (hA (fun e => by rw [e] at hq; simp at hq))
  · have e := str_of_beq hq
    obtain ⟨i, h1, h2, h3⟩ := hn e
    exact ne_ctx hq (hB i e h1 h2 h3)
theorem kw_St22 : True := by
  k_with "~compareOp NotEq str str" => ((k_here; (with_reducible show wpAny _ _ (compareOp CmpOp.NotEq (Value.str _ _) (Value.str (Str.ofString "number") _)) _ _ _); k_dflt (refine' ne_numk hnum (fun hne => ?_) (fun i9 e8 e9 hi0 hi1 => ?_)); all_goals (try (subst e8; subst e9; (dsimp only [WV.v] at hdx)))))
  trivial
set_option maxHeartbeats 8000000 in
theorem size_walk {st dst lw lh : Addr} {k1 k2 k3 k4 t1 t3 : Tok} {text : Str} {k nl : Nat} {items : Array Value} {ws : List PW} {g f : PW}
  (B : Below A₀ base outer h₀) (F : Fr h₀ L s.heap m) (X : (Mine.K1 w.params).In h₀) (N : News h₀ L s.heap ((dst, streamD w.params k1 k2 k3 k4 t1 t3 text lw lh (k : Int)) :: rest)) (T : Top p loose mean mg mb h₀) (hk : cs.kind = .function)
  (hr : ∀ p ∈ rest, p.1 ≠ dst) (h1 : (st, instObj 413 dst) ∈ rest) (h2 : (lw, listOf items nl) ∈ rest) (W : WordsIn w.params rest items ws) (hkk : k < 10000) (hw : ws[k]? = some g) (hf : ws[(sizeAt ws k).1]? = some f)
  (hd : dp + 10 < recursionLimit) (hnum : f.kind = Str.ofString "number" → ∃ i, f.val = .int i ∧ 0 ≤ i ∧ i ≤ 9223372036854775808)
  (hret : ∀ i td t3' h' tk', f.kind = Str.ofString "number" → f.val = .int i → Fr h₀ L h' m → News h₀ L h' ((dst, streamD w.params k1 k2 k3 k4 t1 t3' text lw lh (((sizeAt ws k).1 + 1 : Nat) : Int)) :: rest) → Q (.str ((sizeAt ws k).2 ++ Str.ofString (toString i)) td) { s with heap := h', toks := tk' })
  (hexc : ∀ e dx g' h' tk' k1 k2 t1 t2, f.kind ≠ Str.ofString "number" → Fr h₀ L g' m → RaisedD base g' (envX cn cs L a ccd cl :: outer) e dx ((dx, perrD w.params k1 k2 t1 t2 (Str.ofString "a number is missing") f.pl) :: rest) h' → g'.UpToSlots h' → E (.ref e) { s with heap := h', toks := tk' }) :
  wpAny (model prog w) (ktrTop dp un gd cn cs L a ccd cl outer) (call (.ref 35) [.ref st]) Q E s := by
  have hq2 : ((Str.ofString "number").cps.toList == (Str.ofString "end").cps.toList) = false := by decide +kernel
  rcases hm : isSgn g (Str.ofString "-") with _ | _
  · rcases hp : isSgn g (Str.ofString "+") with _ | _
    · have hs : sizeAt ws k = (k, Str.ofString "") := by unfold sizeAt; rw [hw]; simp [hm, hp]
      rw [hs] at hf hret
      obtain rfl : g = f := by rw [hw] at hf; exact Option.some.inj hf
      clear hf
      obtain ⟨x, dx, j1, j2, j3, j4, u1, u2, u3, u4, hi, hx, hdx⟩ := W k g hw
      have hi' : items[((k : Nat) : Int).toNat]? = some (.ref x) := by simpa using hi
      obtain ⟨fk, ft, fv, fp⟩ := g
      dsimp only at hnum hret hexc hdx
      refine wpAny_call ?_
      k_dflt ktr_enter
      k_steps
      all_goals first
        | ((rename RaisedD _ _ _ _ _ _ _ => rX); exact hexc _ _ _ _ _ _ _ _ _ hne (by assumption) rX (by assumption))
        | exact hret _ _ _ _ _ rfl rfl (by k_asm) (by k_asm)
    · have hs : sizeAt ws k = (k + 1, Str.ofString "") := by unfold sizeAt; rw [hw]; simp [hm, hp]
      rw [hs] at hf hret
      obtain ⟨x, dx, j1, j2, j3, j4, u1, u2, u3, u4, hi, hx, hdx⟩ := W (k + 1) f hf
      have hi' : items[(((k + 1 : Nat) : Int)).toNat]? = some (.ref x) := by simpa using hi
      obtain ⟨fk, ft, fv, fp⟩ := f
      dsimp only at hnum hret hexc hdx
      refine wpAny_call ?_
      k_dflt ktr_enter
      k_steps
      all_goals first
        | ((rename RaisedD _ _ _ _ _ _ _ => rX); exact hexc _ _ _ _ _ _ _ _ _ hne (by assumption) rX (by assumption))
        | exact hret _ _ _ _ _ rfl rfl (by k_asm) (by k_asm)
  · have hs : sizeAt ws k = (k + 1, Str.ofString "-") := by unfold sizeAt; rw [hw]; simp [hm]
    rw [hs] at hf hret
    obtain ⟨x, dx, j1, j2, j3, j4, u1, u2, u3, u4, hi, hx, hdx⟩ := W (k + 1) f hf
    have hi' : items[(((k + 1 : Nat) : Int)).toNat]? = some (.ref x) := by simpa using hi
    obtain ⟨fk, ft, fv, fp⟩ := f
    dsimp only at hnum hret hexc hdx
    refine wpAny_call ?_
    k_dflt ktr_enter
    k_steps
    all_goals first
      | ((rename RaisedD _ _ _ _ _ _ _ => rX); exact hexc _ _ _ _ _ _ _ _ _ hne (by assumption) rX (by assumption))
      | exact hret _ _ _ _ _ rfl rfl (by k_asm) (by k_asm)
end
section
variable {prog : Program} {w : World} {p : Program} {loose : List Str} {mean : ExcName → Option Value} {mg mb : Str → Option Value}
  {dp un : Nat} {gd : Option (List Code)} {cn : Str} {cs : Scope} {a : Addr} {ccd : Value} {cl : List (Str × Addr)} {outer : List Env} {A₀ : Around} {base h₀ : Heap} {L : Addr} {m : Str → Option Value} {s : Shared}
  {Q E : Value → Shared → Prop} {rest : List (Addr × Obj)}
theorem kw_St3 : True := by
  w_top off
  k_with_none
  k_with "~k_all" => (first | with_reducible assumption | exact ne_of_allLt (by with_reducible assumption) | assumption | exact ne_of_allLt (by assumption))
  k_with "~memr" => (first | (with_reducible exact List.mem_cons_self ..) | ((with_reducible refine List.mem_cons_of_mem _ ?_); walk_at "memr") | (with_reducible assumption) | ((with_reducible refine List.mem_append_left _ ?_); walk_at "memr") | ((with_reducible refine List.mem_append_right _ ?_); walk_at "memr"))
  k_with "~memd" => (first | exact List.mem_cons_self .. | (refine List.mem_cons_of_mem _ ?_; walk_at "memd") | (refine List.mem_append.mpr (Or.inl ?_); walk_at "memd") | (refine List.mem_append.mpr (Or.inr ?_); walk_at "memd") | assumption)
  k_with "~k_mem" => (first | walk_at "memr" | walk_at "memd")
  k_with "~k_in" => (first | with_reducible assumption | exact Frag.In.keeps (by with_reducible assumption) (Fr.keep (by with_reducible assumption)))
  k_with "~k_room" => (((try simp only [depth_under_make, depth_under_kw, depth_in1, depth_deeper, depth_caller]); (try dsimp only [ktrTop]); first | walk_at "room" | omega))
  k_with "~mul_fits" => (k_dflt (exact mulOk_fmod _ _))
  k_with "~exec Raise some none" => ((k_here; (with_reducible show wpAny _ _ (exec (Stmt.Raise (some (Expr.Call (Expr.Name (Str.ofString "ParseError") _) _ _ _)) none _) _) _ _ _); refine Raise_E rfl ?_))
  k_with "~RaiseBack" => ((k_dflt (refine' RaiseBack.intro ?k1_8 ?k2_8 ?k3_8 ?k4_8 ?k5_8 ?_; (case k1_8 => k_asm); (case k2_8 => k_asm); (case k3_8 => k_asm); (case k4_8 => k_is); (case k5_8 => k_mem))))
  k_with "~call ref" => ((k_here; (with_reducible show wpAny _ _ (call (Value.ref 91) _ _) _ _ _); k_dflt (refine' call_excE ?k1_9 ?k2_9 ?k3_9 ?k4_9 ?k5_9 ?k6_9 ?k7_9 ?k8_9 ?k9_9 ?_; (case k1_9 => k_asm); (case k2_9 => k_asm); (case k3_9 => k_asm); (case k4_9 => k_is); (case k5_9 => k_is); (case k6_9 => k_is); (case k7_9 => k_is); (case k8_9 => k_is); (case k9_9 => size_fits); k_whole; intro e' t' h' F' N' l1 l2 l3; (try k_lt l1); (try k_lt2 l2); (try k_lt l3); (try k_sweep); (try dsimp only); k_enter)))
  k_with "~instx" => (first | (refine' inst_exc ?N_10 ?h1_10 ?h2_10; (case N_10 => with_reducible assumption); (case h1_10 => walk_at "memr"); (case h2_10 => walk_at "memr")) | (refine' inst_exc2 ?N_10 ?h1_10 ?hc_10 ?hd_10 ?hn_10 ?h2_10; (case hc_10 => with_reducible assumption); (case hd_10 => with_reducible assumption); (case hn_10 => with_reducible assumption); (case N_10 => with_reducible assumption); (case h1_10 => walk_at "memr"); (case h2_10 => walk_at "memr")))
  k_with "~instn" => ((refine' InstAt.of_news ?N_11 ?h1_11 ?h2_11; (case N_11 => with_reducible assumption); (case h1_11 => walk_at "memr"); (case h2_11 => walk_at "memr")))
  k_with "~k_inst" => (first | walk_at "instn" | walk_at "instx")
  k_with "~setAttr ref" => ((k_here; k_dflt (first | (refine' setE_new ?k1_13 ?k2_13 ?k3_13 ?k4_13 ?k5_13 ?k6_13 ?k6b_13 ?k7_13 ?k8_13 ?k9_13 ?k10_13 ?_; (case k1_13 => k_asm); (case k2_13 => k_asm); (case k3_13 => k_asm); (case k4_13 => k_all); (case k5_13 => k_is); (case k6_13 => k_is); (case k6b_13 => exact rfl); (case k7_13 => k_is); (case k8_13 => k_is); (case k9_13 => k_put); (case k10_13 => exact Nat.le_of_ble_eq_true rfl); k_whole; intro h' dx' F' N' l1 l2; (try k_lt l1); (try k_lt2 l2); (try k_sweep); (try dsimp only)) | (refine' setE_old ?k1_13 ?k2_13 ?k3_13 ?k4_13 ?k5_13 ?k6_13 ?k7_13 ?k7b_13 ?k8_13 ?k9_13 ?k10_13 ?k11_13 ?k12_13 ?k13_13 ?_; (case k1_13 => k_asm); (case k2_13 => k_asm); (case k3_13 => k_asm); (case k4_13 => walk_at "instx"); (case k5_13 => exact rfl); (case k6_13 => k_is); (case k7_13 => k_is); (case k7b_13 => exact rfl); (case k8_13 => k_is); (case k9_13 => k_is); (case k10_13 => k_get); (case k11_13 => k_put); (case k12_13 => k_upd); (case k13_13 => exact Nat.le_of_ble_eq_true rfl); k_whole; intro h' F' N'; (try k_sweep); (try dsimp only)))))
  k_with "~getAttr ref" => ((k_here; k_dflt (refine' getE ?k1_14 ?k2_14 ?k3_14 ?k4_14 ?k5_14 ?k6_14 ?k7_14 ?k8_14 ?k9_14 ?k10_14 ?_; (case k1_14 => k_asm); (case k2_14 => k_asm); (case k3_14 => walk_at "instx"); (case k4_14 => k_is); (case k5_14 => k_is); (case k6_14 => k_is); (case k7_14 => k_is); (case k8_14 => k_is); (case k9_14 => k_get); (case k10_14 => k_handed); k_whole)))
  k_with "~getAttr ref" => ((k_here; k_dflt (refine' get_own ?k1_15 ?k2_15 ?k3_15 ?k4_15 ?k5_15 ?k6_15 ?k7_15 ?k8_15 ?k9_15 ?_; (case k1_15 => k_asm); (case k2_15 => k_asm); (case k3_15 => walk_at "instn"); (case k4_15 => k_is); (case k5_15 => k_is); (case k6_15 => k_is); (case k7_15 => k_is); (case k8_15 => k_get); (case k9_15 => k_handed); k_whole)))
  k_with "~leaving ref" => ((k_here; k_dflt (first | (refine' leave_raiseD2 ?k1_16 ?k2_16 ?k3_16 ?k4_16 ?_; (case k1_16 => k_asm); (case k2_16 => k_asm); (case k3_16 => k_asm); (case k4_16 => k_all); k_whole; intro h' R' U'; (try dsimp only at R' U' ⊢)) | (refine' leave_onD ?k1_16 ?k2_16 ?k3_16 ?k4_16 ?_; (case k3_16 => k_asm); (case k2_16 => k_asm); (case k1_16 => k_asm); (case k4_16 => k_asm); k_whole; intro h' R' U'; (try dsimp only at R' U' ⊢)))))
  k_with "~subscriptTail Attribute Name Attribute ref int" => ((k_here; (with_reducible show wpAny _ _ (subscriptTail _ _ (Value.ref _) (Value.int _ _)) _ _ _); k_dflt (refine' item_ctx ?k1_17 ?k2_17 ?k3_17 ?k4_17 ?k5_17 ?_ ?k6_17; (case k1_17 => k_asm); (case k2_17 => k_mem); (case k3_17 => omega); (case k4_17 => omega); (case k5_17 => k_asm); (case k6_17 => with_unfolding_all rfl); k_whole)))
  k_with "~compareOp Eq str str" => ((k_here; k_dflt (refine eq_ctx (by k_asm) ?_)))
  k_with "~compareOp NotEq str str" => ((k_here; k_dflt (refine ne_ctx (by k_asm) ?_)))
  k_with "~call type:str" => ((k_here; (with_reducible show wpAny _ _ (call (Value.type "str") [Value.int _ _]) _ _ _); k_dflt (refine PySem.P.str_of_int (log_small (by k_asm) (by k_asm)) ?_)))
  k_with "~compareOp NotIn str ref" => ((k_here; k_dflt (first | refine resv_notin (by k_asm) (by k_asm) (by k_asm) ?_ | refine joinw_notin (by k_asm) (by k_asm) (by k_asm) ?_)))
  k_with "~compareOp In str ref" => ((k_here; k_dflt (refine sgn2_in (by k_asm) (by k_asm) (by k_asm) ?_)))
  k_with "~size_fits" => (exact size1000 (by k_asm))
  k_with "~subscriptTail Attribute Name Attribute str int" => ((k_here; (with_reducible show wpAny _ _ (subscriptTail _ _ (Value.str _ _) (Value.int _ _)) _ _ _); k_dflt (refine item_sctx (by k_asm) (by k_asm) ?_)))
  k_with "~compareOp In str str" => ((k_here; k_dflt (refine in_sctx (by k_asm) ?_)))
  k_with "~call builtin:ord" => ((k_here; (with_reducible show wpAny _ _ (call (Value.builtin "ord") [Value.str ⟨#[_]⟩ _]) _ _ _); refine ord_sctx ?_))
  k_with "~TurnI" => ((k_dflt (refine' TurnI.intro ?k1_27 ?k2_27 ?k3_27 ?k4_27; (case k1_27 => k_asm); (case k2_27 => k_asm); (case k3_27 => exact rfl); (case k4_27 => (intro z hz; simp [hz])))))
  k_with "~call builtin:str.isascii" => ((k_here; refine isascii_ctx (by k_asm) ?_))
  k_with "~subscriptTail Name Name str int" => ((k_here; k_dflt (refine item_sctx (by k_asm) (by k_asm) ?_)))
  k_with "~subscriptTail Attribute Name Slice str ref" => ((walk_at "last subscriptTail"))
  k_with "~storeName" => ((k_here; k_dflt (refine' storeX_L ?F_31 ?N_31 ?_ ?a_31 ?b_31; (case F_31 => k_asm); (case N_31 => k_asm); (case a_31 => rfl); (case b_31 => rfl); k_whole; intro h' F' N'; (try k_sweep); (try dsimp only))))
  k_with "~execs cons" => ((k_here; k_fold))
  k_with "~room" => (first | exact room1 (by with_reducible assumption) (Nat.le_of_ble_eq_true rfl) | exact room0 (by with_reducible assumption) (Nat.le_of_ble_eq_true rfl) | exact room2 (by with_reducible assumption) (Nat.le_of_ble_eq_true rfl))
  k_with "~ltc" => (first | (with_reducible assumption) | (with_reducible exact And.left (by with_reducible assumption)) | (with_reducible exact And.left (And.right (by with_reducible assumption))) | (with_reducible exact And.left (And.right (And.right (by with_reducible assumption)))) | (with_reducible exact And.left (And.right (And.right (And.right (by with_reducible assumption))))) | (with_reducible exact And.left (And.right (And.right (And.right (And.right (by with_reducible assumption)))))) | (with_reducible exact And.left (And.right (And.right (And.right (And.right (And.right (by with_reducible assumption))))))) | (with_reducible exact And.left (And.right (And.right (And.right (And.right (And.right (And.right (by with_reducible assumption)))))))) | (with_reducible exact (And.right (by with_reducible assumption))) | (with_reducible exact (And.right (And.right (by with_reducible assumption)))))
  k_with "~k_ne" => (((refine neN ?_); (try dsimp only); first | (with_reducible exact Nat.ne_of_lt (by walk_at "ltc")) | (with_reducible exact Nat.ne_of_gt (by walk_at "ltc"))))
  k_with "~posl" => (omega)
  k_with "~call ref" => ((k_here; (with_reducible show wpAny _ _ (call (Value.ref 368) [Value.ref _, Value.str _ _]) _ _ _); k_dflt (first | (refine' take_yes ?k1_40 ?k2_40 ?k3_40 ?k4_40 ?k5_40 ?k6_40 ?k7_40 ?k8_40 ?k9_40 ?k10_40 ?k11_40 ?k12_40 ?k13_40 ?k14_40 ?_; (case k1_40 => k_asm); (case k2_40 => k_asm); (case k3_40 => k_asm); (case k4_40 => k_asm); (case k5_40 => k_asm); (case k6_40 => first | exact rfl | assumption); (case k7_40 => k_all); (case k8_40 => k_mem); (case k9_40 => k_mem); (case k10_40 => assumption); (case k11_40 => walk_at "posl"); (case k12_40 => assumption); (case k13_40 => assumption); (case k14_40 => k_room); k_whole; intro t3' h' tk' F' N'; (try k_sweep); (try dsimp only)) | (refine' take_no ?k1_40 ?k2_40 ?k3_40 ?k4_40 ?k5_40 ?k6_40 ?k7_40 ?k8_40 ?k9_40 ?k10_40 ?k11_40 ?k12_40 ?k13_40 ?k14_40 ?_; (case k1_40 => k_asm); (case k2_40 => k_asm); (case k3_40 => k_asm); (case k4_40 => k_asm); (case k5_40 => k_asm); (case k6_40 => first | exact rfl | assumption); (case k7_40 => k_all); (case k8_40 => k_mem); (case k9_40 => k_mem); (case k10_40 => assumption); (case k11_40 => walk_at "posl"); (case k12_40 => assumption); (case k13_40 => assumption); (case k14_40 => k_room); k_whole; intro h' tk' F' N'; (try k_sweep); (try dsimp only)))))
  k_with "~call ref" => ((k_here; (with_reducible show wpAny _ _ (call (Value.ref 144) _) _ _ _); k_dflt (refine' free_ok ?k1_36 ?k2_36 ?k3_36 ?k4_36 ?k5_36 ?k6_36 ?k7_36 ?k8_36 ?k9_36 ?k13_36 ?_; (case k7_36 => k_asm); (case k1_36 => k_asm); (case k2_36 => k_asm); (case k3_36 => k_asm); (case k4_36 => k_asm); (case k5_36 => k_asm); (case k6_36 => first | exact rfl | assumption); (case k8_36 => k_mem); (case k9_36 => k_mem); (case k13_36 => k_room); k_whole; intro h' tk' F' N'; (try k_sweep); (try dsimp only))))
  k_with "~call ref" => ((k_here; (with_reducible show wpAny _ _ (call (Value.ref 151) _) _ _ _); k_dflt (refine' plain_ok ?k1_41 ?k2_41 ?k3_41 ?k4_41 ?k5_41 ?k6_41 ?k7_41 ?k8_41 ?k9_41 ?k13_41 ?_; (case k7_41 => k_asm); (case k1_41 => k_asm); (case k2_41 => k_asm); (case k3_41 => k_asm); (case k4_41 => k_asm); (case k5_41 => k_asm); (case k6_41 => first | exact rfl | assumption); (case k8_41 => k_mem); (case k9_41 => k_mem); (case k13_41 => k_room); k_whole; intro h' tk' F' N'; (try k_sweep); (try dsimp only))))
  k_with "~call ref" => ((k_here; (with_reducible show wpAny _ _ (call (Value.ref 298) _) _ _ _); k_dflt (refine' here_ok ?k1_42 ?k2_42 ?k3_42 ?k4_42 ?k5_42 ?k6_42 ?k8_42 ?k7_42 ?k9_42 ?k11_42 ?k12_42 ?k13_42 ?_; (case k1_42 => k_asm); (case k2_42 => k_asm); (case k3_42 => k_asm); (case k4_42 => k_asm); (case k5_42 => k_asm); (case k6_42 => first | exact rfl | assumption); (case k8_42 => k_mem); (case k7_42 => k_mem); (case k9_42 => k_mem); (case k11_42 => walk_at "posl"); (case k12_42 => k_asm); (case k13_42 => k_room); k_whole; intro h' tk' F' N'; (try k_sweep); (try dsimp only))))
  k_with "~call ref" => ((k_here; (with_reducible show wpAny _ _ (call (Value.ref 312) _) _ _ _); k_dflt (refine' go_ok ?k1_43 ?k2_43 ?k3_43 ?k4_43 ?k5_43 ?k6_43 ?k7_43 ?k8_43 ?k9_43 ?k11_43 ?k12_43 ?k15_43 ?k16_43 ?k17_43 ?k13_43 ?_; (case k1_43 => k_asm); (case k2_43 => k_asm); (case k3_43 => k_asm); (case k4_43 => first | k_asm | exact news_sw0 (by k_asm)); (case k5_43 => k_asm); (case k6_43 => first | exact rfl | assumption); (case k7_43 => k_all); (case k8_43 => k_mem); (case k9_43 => k_mem); (case k11_43 => walk_at "posl"); (case k12_43 => k_asm); (case k15_43 => k_mem); (case k16_43 => k_mem); (case k17_43 => k_asm); (case k13_43 => k_room); k_whole; intro t3' h' tk' F' N'; (try k_sweep); (try dsimp only))))
  k_with "~call ref" => ((k_here; (with_reducible show wpAny _ _ (call (Value.ref 319) [Value.ref _, Value.str _ _]) _ _ _); k_dflt (refine' refuse_ok ?k1_44 ?k2_44 ?k3_44 ?k4_44 ?k5_44 ?k6_44 ?k8_44 ?k9_44 ?k11_44 ?k12_44 ?k15_44 ?k16_44 ?k13_44 ?_; (case k1_44 => k_asm); (case k2_44 => k_asm); (case k3_44 => k_asm); (case k4_44 => k_asm); (case k5_44 => k_asm); (case k6_44 => first | exact rfl | assumption); (case k8_44 => k_mem); (case k9_44 => k_mem); (case k11_44 => walk_at "posl"); (case k12_44 => k_asm); (case k15_44 => k_mem); (case k16_44 => k_mem); (case k13_44 => k_room); k_whole; intro eZ dxZ gZ hZ tkZ j1Z j2Z u1Z u2Z F' R' U'; (try k_sweep); (try dsimp only))))
  trivial
set_option maxHeartbeats 8000000 in
theorem need_yes {st dst lw lh : Addr} {k1 k2 k3 k4 t1 t3 : Tok} {text : Str} {k nl : Nat} {items : Array Value} {ws : List PW} {g : PW} {t : Str} {tt : Tok}
  (B : Below A₀ base outer h₀) (F : Fr h₀ L s.heap m) (X : (Mine.K1 w.params).In h₀) (N : News h₀ L s.heap ((dst, streamD w.params k1 k2 k3 k4 t1 t3 text lw lh (k : Int)) :: rest)) (T : Top p loose mean mg mb h₀) (hk : cs.kind = .function)
  (hr : ∀ p ∈ rest, p.1 ≠ dst) (h1 : (st, instObj 413 dst) ∈ rest) (h2 : (lw, listOf items nl) ∈ rest) (W : WordsIn w.params rest items ws) (hkk : k < 10000) (hw : ws[k]? = some g)
  (hd : dp + 10 < recursionLimit) (hs : isSgn g t = true)
  (hret : ∀ t3' h' tk', Fr h₀ L h' m → News h₀ L h' ((dst, streamD w.params k1 k2 k3 k4 t1 t3' text lw lh ((k + 1 : Nat) : Int)) :: rest) → Q .none { s with heap := h', toks := tk' }) :
  wpAny (model prog w) (ktrTop dp un gd cn cs L a ccd cl outer) (call (.ref 382) [.ref st, .str t tt]) Q E s := by
  refine wpAny_call ?_
  k_dflt ktr_enter
  k_steps
  exact hret _ _ _ (by k_asm) (by k_asm)
set_option maxHeartbeats 8000000 in
theorem need_no {st dst lw lh : Addr} {k1 k2 k3 k4 t1 t3 : Tok} {text : Str} {k nl : Nat} {items : Array Value} {ws : List PW} {g : PW} {t : Str} {tt : Tok}
  (B : Below A₀ base outer h₀) (F : Fr h₀ L s.heap m) (X : (Mine.K1 w.params).In h₀) (N : News h₀ L s.heap ((dst, streamD w.params k1 k2 k3 k4 t1 t3 text lw lh (k : Int)) :: rest)) (T : Top p loose mean mg mb h₀) (hk : cs.kind = .function)
  (hr : ∀ p ∈ rest, p.1 ≠ dst) (h1 : (st, instObj 413 dst) ∈ rest) (h2 : (lw, listOf items nl) ∈ rest) (W : WordsIn w.params rest items ws) (hkk : k < 10000) (hw : ws[k]? = some g)
  (hd : dp + 10 < recursionLimit) (hs : isSgn g t = false) (htl : t.length ≤ 10)
  (hexc : ∀ e dx g' h' tk' k1 k2 t1 t2, Fr h₀ L g' m → RaisedD base g' (envX cn cs L a ccd cl :: outer) e dx ((dx, perrD w.params k1 k2 t1 t2 (t ++ Str.ofString " is missing") g.pl) :: rest) h' → g'.UpToSlots h' → E (.ref e) { s with heap := h', toks := tk' }) :
  wpAny (model prog w) (ktrTop dp un gd cn cs L a ccd cl outer) (call (.ref 382) [.ref st, .str t tt]) Q E s := by
  obtain ⟨x, dx, j1, j2, j3, j4, u1, u2, u3, u4, hi, hx, hdx⟩ := W k g hw
  have hi' : items[((k : Nat) : Int).toNat]? = some (.ref x) := by simpa using hi
  refine wpAny_call ?_
  k_dflt ktr_enter
  k_steps
  (rename RaisedD _ _ _ _ _ _ _ => rX)
  exact hexc _ _ _ _ _ _ _ _ _ (by assumption) rX (by assumption)
set_option maxHeartbeats 8000000 in
theorem name_no {st dst lw lh : Addr} {k1 k2 k3 k4 t1 t3 : Tok} {text : Str} {k nl : Nat} {items : Array Value} {ws : List PW} {g : PW}
  (B : Below A₀ base outer h₀) (F : Fr h₀ L s.heap m) (X : (Mine.K1 w.params).In h₀) (N : News h₀ L s.heap ((dst, streamD w.params k1 k2 k3 k4 t1 t3 text lw lh (k : Int)) :: rest)) (T : Top p loose mean mg mb h₀) (hk : cs.kind = .function)
  (hr : ∀ p ∈ rest, p.1 ≠ dst) (h1 : (st, instObj 413 dst) ∈ rest) (h2 : (lw, listOf items nl) ∈ rest) (W : WordsIn w.params rest items ws) (hkk : k < 10000) (hw : ws[k]? = some g)
  (hd : dp + 10 < recursionLimit) (hs : isFree g = false)
  (hexc : ∀ e dx g' h' tk' k1 k2 t1 t2, Fr h₀ L g' m → RaisedD base g' (envX cn cs L a ccd cl :: outer) e dx ((dx, perrD w.params k1 k2 t1 t2 (Str.ofString "a name is missing") g.pl) :: rest) h' → g'.UpToSlots h' → E (.ref e) { s with heap := h', toks := tk' }) :
  wpAny (model prog w) (ktrTop dp un gd cn cs L a ccd cl outer) (call (.ref 389) [.ref st]) Q E s := by
  obtain ⟨x, dx, j1, j2, j3, j4, u1, u2, u3, u4, hi, hx, hdx⟩ := W k g hw
  have hi' : items[((k : Nat) : Int).toNat]? = some (.ref x) := by simpa using hi
  refine wpAny_call ?_
  k_dflt ktr_enter
  k_steps
  (rename RaisedD _ _ _ _ _ _ _ => rX)
  exact hexc _ _ _ _ _ _ _ _ _ (by assumption) rX (by assumption)
set_option maxHeartbeats 8000000 in
theorem name_yes {st dst lw lh : Addr} {k1 k2 k3 k4 t1 t3 : Tok} {text : Str} {k nl : Nat} {items : Array Value} {ws : List PW} {g : PW}
  (B : Below A₀ base outer h₀) (F : Fr h₀ L s.heap m) (X : (Mine.K1 w.params).In h₀) (N : News h₀ L s.heap ((dst, streamD w.params k1 k2 k3 k4 t1 t3 text lw lh (k : Int)) :: rest)) (T : Top p loose mean mg mb h₀) (hk : cs.kind = .function)
  (hr : ∀ p ∈ rest, p.1 ≠ dst) (h1 : (st, instObj 413 dst) ∈ rest) (h2 : (lw, listOf items nl) ∈ rest) (W : WordsIn w.params rest items ws) (hkk : k < 10000) (hw : ws[k]? = some g)
  (hd : dp + 10 < recursionLimit) (hs : isFree g = true) {vs : Str} (hvs : g.val = .str vs)
  (hret : ∀ tv t3' h' tk', Fr h₀ L h' m → News h₀ L h' ((dst, streamD w.params k1 k2 k3 k4 t1 t3' text lw lh ((k + 1 : Nat) : Int)) :: rest) → Q (.str vs tv) { s with heap := h', toks := tk' }) :
  wpAny (model prog w) (ktrTop dp un gd cn cs L a ccd cl outer) (call (.ref 389) [.ref st]) Q E s := by
  obtain ⟨x, dx, j1, j2, j3, j4, u1, u2, u3, u4, hi, hx, hdx⟩ := W k g hw
  have hi' : items[((k : Nat) : Int).toNat]? = some (.ref x) := by simpa using hi
  obtain ⟨gk, gt, gv, gp⟩ := g
  obtain rfl : gv = .str vs := hvs
  dsimp only [WV.v] at hdx
  have hs' := Bool.and_eq_true_iff.mp hs
  obtain rfl := str_of_beq hs'.1
  have hq2 : ((Str.ofString "name").cps.toList == (Str.ofString "end").cps.toList) = false := by decide +kernel
  refine wpAny_call ?_
  k_dflt ktr_enter
  k_steps
  exact hret _ _ _ _ (by k_asm) (by k_asm)
end
section
open PySem PySem.W PySem.Calls PyProof.Rows
noncomputable abbrev scanD (P : Params) (k1 k2 k3 k4 t1 t2 t4 : Tok) (text : Str) (pl : Int) (lf : Addr) (gr : Int) : Obj :=
  dictOf [⟨PyData.keyHash P (Str.ofString "text"), .str (Str.ofString "text") k1, .str text t1⟩, ⟨PyData.keyHash P (Str.ofString "place"), .str (Str.ofString "place") k2, .int pl t2⟩, ⟨PyData.keyHash P (Str.ofString "found"), .str (Str.ofString "found") k3, .ref lf⟩, ⟨PyData.keyHash P (Str.ofString "greatest"), .str (Str.ofString "greatest") k4, .int gr t4⟩] 4
theorem size1000 {n : Nat} (h : n ≤ 1000) : n ≤ sizeLine := by rw [sizeLine_eq]; omega
theorem news_perm4 {h₀ h : Heap} {L : Addr} {a b c d : Addr × Obj} {tl : List (Addr × Obj)} (N : News h₀ L h (a :: b :: c :: d :: tl)) : News h₀ L h (c :: d :: a :: b :: tl) := fun p hp => N p (by
  rcases List.mem_cons.mp hp with rfl | hp
  · simp
  rcases List.mem_cons.mp hp with rfl | hp
  · simp
  rcases List.mem_cons.mp hp with rfl | hp
  · simp
  rcases List.mem_cons.mp hp with rfl | hp
  · simp
  simp [hp])
theorem news_drop1 {h₀ h : Heap} {L : Addr} {a : Addr × Obj} {tl : List (Addr × Obj)} (N : News h₀ L h (a :: tl)) : News h₀ L h tl := fun p hp => N p (List.mem_cons_of_mem _ hp)
end
section
open PySem PySem.W PySem.Calls PyProof.Rows
noncomputable abbrev inS (x : Str) (c : Nat) : Bool := decide (c ∈ x.cps.toList)
theorem len_of_at {x : Str} {k c : Nat} (h : x.cps[k]? = some c) : k < x.length := (Array.getElem?_eq_some_iff.mp h).1
theorem char_at {x : Str} {k c : Nat} (h : x.cps[k]? = some c) : (seqIndex? (k : Int) x.length).bind (x.cps[·]?) = some c := by
  have hl : k < x.cps.size := (Array.getElem?_eq_some_iff.mp h).1
  have e : seqIndex? (k : Int) x.length = some k := by
    unfold seqIndex?
    have h1 : ¬ ((k : Int) < 0) := by omega
    have h2 : (k : Int) < (x.length : Int) := by show (k : Int) < (x.cps.size : Int); omega
    simp [h1, h2]
  rw [e]; exact h
section
variable {prog : Program} {w : World} {A : Around} {E : Value → Shared → Prop} {s : Shared} {h₀ : Heap} {L : Addr} {m : Str → Option Value}
theorem item_sctx {Q : Value → Shared → Prop} {value slice : Expr} {x : Str} {k c : Nat} {t u : Tok} (hc : x.cps[k]? = some c) (hl : x.length ≤ 1000) (h : Q (.str ⟨#[c]⟩ s.toks) { s with toks := s.toks + 1 })
    (hs : subscripted slice false (.str x t) (.int (k : Int) u) = operate [.str x t, .int (k : Int) u] (getItem (.str x t) (.int (k : Int) u)) := by with_unfolding_all rfl)
    (ht : ∀ r, letTemporaryGo value (.str x t) r = pure () := by intro _; with_unfolding_all rfl) :
    wpAny (model prog w) A (subscriptTail value slice (.str x t) (.int (k : Int) u)) Q E s := by
  have hk : k < x.cps.size := (Array.getElem?_eq_some_iff.mp hc).1
  have hk2 : k < 1000 := Nat.lt_of_lt_of_le hk hl
  have h1 : Txt.item x (k : Int) = ⟨#[c]⟩ := by
    have := char_at hc
    show (⟨#[(Txt.charAt x (k : Int)).getD 0]⟩ : Str) = _
    rw [show Txt.charAt x (k : Int) = some c from this]; rfl
  exact item_str (fitsSsize_of (N := 9223372036854775808) (by omega) (by omega) (Int.le_refl _)) (by show -(x.cps.size : Int) ≤ (k : Int); omega) (by show (k : Int) < (x.cps.size : Int); omega) (fun _ => by rw [h1]; exact h) hs ht
theorem in_sctx {Q : Value → Shared → Prop} {x : Str} {c : Nat} {t u : Tok} {b : Bool} (hb : inS x c = b) (h : Q (.bool b) s) : wpAny (model prog w) A (compareOp .In (.str ⟨#[c]⟩ u) (.str x t)) Q E s :=
  PySem.P.in_str (by rw [StrLaws.found_one]; subst hb; exact h)
theorem ord_sctx {Q : Value → Shared → Prop} {c : Nat} {t : Tok} (h : Q (.int c s.toks) { s with toks := s.toks + 1 }) : wpAny (model prog w) A (call (.builtin "ord") [.str ⟨#[c]⟩ t]) Q E s := PySem.P.ord_of_char h
end
/-- a loop's turn: the one name y holds k now, all else as it was -/
noncomputable def TurnI (h₀ : Heap) (L : Addr) (s : Shared) (y : Str) (k : Nat) (m₀ : Str → Option Value) (news : List (Addr × Obj)) (f : Flow) (s₃ : Shared) : Prop :=
  f = .next ∧ ∃ h' tk' t', s₃ = { s with heap := h', toks := tk' } ∧ Fr h₀ L h' (fun z => if z = y then some (.int (k : Int) t') else m₀ z) ∧ News h₀ L h' news
theorem TurnI.intro {h₀ h' : Heap} {L : Addr} {s : Shared} {y : Str} {k : Nat} {m₀ m' : Str → Option Value} {news : List (Addr × Obj)} {tk' : Nat} {t' : Tok} (F : Fr h₀ L h' m') (N : News h₀ L h' news)
    (hm : m' y = some (.int (k : Int) t')) (ho : ∀ z, z ≠ y → m' z = m₀ z) : TurnI h₀ L s y k m₀ news .next { s with heap := h', toks := tk' } := by
  refine ⟨rfl, h', tk', t', rfl, ?_, N⟩
  have e : (fun z => if z = y then some (.int (k : Int) t') else m₀ z) = m' := by
    funext z
    by_cases hz : z = y
    · rw [if_pos hz, hz, hm]
    · rw [if_neg hz, ho z hz]
  rw [e]; exact F
section
variable {prog : Program} {w : World} {A : Around} {E : Value → Shared → Prop} {Q : Flow → Shared → Prop} {s : Shared} {env : Env} {h₀ : Heap} {L : Addr}
theorem while_int {test : Expr} {body : List Stmt} {pos : Pos} {m₀ : Str → Option Value} {news : List (Addr × Obj)} {y : Str} {k₀ e : Nat} {i₀ : Int} {t₀ : Tok} (hle : k₀ ≤ e)
    (F : Fr h₀ L s.heap m₀) (N : News h₀ L s.heap news) (hy : m₀ y = some (.int i₀ t₀)) (hi₀ : i₀ = (k₀ : Int))
    (turn : ∀ k t h tk, k₀ ≤ k → k < e → Fr h₀ L h (fun z => if z = y then some (.int (k : Int) t) else m₀ z) → News h₀ L h news →
      wpAny (model prog w) A (isTrue test env (eval test env)) (fun b s₂ => WhlIf b (wpAny (model prog w) A (execs body env) (TurnI h₀ L s y (k + 1) m₀ news) (fun _ _ => False) s₂) False) (fun _ _ => False) { s with heap := h, toks := tk })
    (last : ∀ t h tk, Fr h₀ L h (fun z => if z = y then some (.int (e : Int) t) else m₀ z) → News h₀ L h news →
      wpAny (model prog w) A (isTrue test env (eval test env)) (fun b s₂ => WhlIf b False (TurnI h₀ L s y e m₀ news .next s₂)) (fun _ _ => False) { s with heap := h, toks := tk })
    (done : ∀ t h tk, Fr h₀ L h (fun z => if z = y then some (.int (e : Int) t) else m₀ z) → News h₀ L h news → Q .next { s with heap := h, toks := tk }) :
    wpAny (model prog w) A (exec (.While test body [] pos) env) Q E s := by
  subst hi₀
  refine wpAny_mono (E := fun _ _ => False) (While_inv2 (fun n m nx => nx = news ∧ ∃ k t, k₀ ≤ k ∧ k ≤ e ∧ n = e - k ∧ m y = some (.int (k : Int) t) ∧ ∀ z, z ≠ y → m z = m₀ z) F N ⟨rfl, k₀, t₀, Nat.le_refl _, hle, rfl, hy, fun _ _ => rfl⟩ ?_ PassesOwn.never) (fun _ _ h => h) (fun _ _ h => h.elim)
  rintro n m₁ nx h tk F₁ N₁ ⟨rfl, k, t, hk1, hk2, rfl, hv, ho⟩
  have e1 : (fun z => if z = y then some (.int (k : Int) t) else m₀ z) = m₁ := by
    funext z
    by_cases hz : z = y
    · rw [if_pos hz, hz, hv]
    · rw [if_neg hz, ho z hz]
  by_cases hlt : k < e
  · refine wpAny_mono (turn k t h tk hk1 hlt (by rw [e1]; exact F₁) N₁) (fun b s₂ q => ?_) fun _ _ x => x
    cases b with
    | false => unfold WhlIf at q; rw [if_neg Bool.false_ne_true] at q; exact q.elim
    | true =>
      unfold WhlIf at q
      rw [if_pos rfl] at q
      rw [if_pos rfl]
      refine wpAny_mono q (fun f s₃ r => ?_) fun _ _ x => x
      obtain ⟨rfl, h', tk', t', rfl, F', N'⟩ := r
      exact ⟨h', tk', _, nx, e - (k + 1), rfl, F', N', by omega, rfl, k + 1, t', by omega, by omega, rfl, by simp, fun z hz => by simp [hz]⟩
  · obtain rfl : k = e := by omega
    refine wpAny_mono (last t h tk (by rw [e1]; exact F₁) N₁) (fun b s₂ q => ?_) fun _ _ x => x
    cases b with
    | false =>
      unfold WhlIf at q
      rw [if_neg Bool.false_ne_true] at q
      rw [if_neg Bool.false_ne_true]
      obtain ⟨_, h', tk', t', rfl, F', N'⟩ := q
      exact done t' h' tk' F' N'
    | true => unfold WhlIf at q; rw [if_pos rfl] at q; exact q.elim
end
noncomputable abbrev NAMES : Str := Str.ofString "abcdefghijklmnopqrstuvwxyzABCDEFGHIJKLMNOPQRSTUVWXYZ_0123456789$"
/-- the signs from a to b are of x; the one behind is not -/
noncomputable def RunS (x T : Str) (a b : Nat) : Prop := a ≤ b ∧ ∀ i, a ≤ i → i < b → ∃ c, T.cps[i]? = some c ∧ inS x c = true
noncomputable def StopS (x T : Str) (e : Nat) : Prop := e = T.length ∨ ∃ c, T.cps[e]? = some c ∧ inS x c = false ∧ c < 128 ∧ e < T.length
section
variable {prog : Program} {w : World} {A : Around} {E : Value → Shared → Prop} {s : Shared}
theorem isascii_ctx {Q : Value → Shared → Prop} {x : Str} {t : Tok} (hb : Txt.isascii x = true) (h : Q (.bool true) s) : wpAny (model prog w) A (call (.builtin "str.isascii") [.str x t]) Q E s :=
  SC.isascii (by rw [hb]; exact h)
end
end
section
variable {prog : Program} {w : World} {p : Program} {loose : List Str} {mean : ExcName → Option Value} {mg mb : Str → Option Value}
  {dp un : Nat} {gd : Option (List Code)} {cn : Str} {cs : Scope} {a : Addr} {ccd : Value} {cl : List (Str × Addr)} {outer : List Env} {A₀ : Around} {base h₀ : Heap} {L : Addr} {m : Str → Option Value} {s : Shared}
  {Q E : Value → Shared → Prop} {rest : List (Addr × Obj)}
theorem kw_Sc1 : True := by
  w_top off
  k_with_none
  k_with "~k_all" => (first | with_reducible assumption | exact ne_of_allLt (by with_reducible assumption) | assumption | exact ne_of_allLt (by assumption))
  k_with "~memr" => (first | (with_reducible exact List.mem_cons_self ..) | ((with_reducible refine List.mem_cons_of_mem _ ?_); walk_at "memr") | (with_reducible assumption) | ((with_reducible refine List.mem_append_left _ ?_); walk_at "memr") | ((with_reducible refine List.mem_append_right _ ?_); walk_at "memr"))
  k_with "~memd" => (first | exact List.mem_cons_self .. | (refine List.mem_cons_of_mem _ ?_; walk_at "memd") | (refine List.mem_append.mpr (Or.inl ?_); walk_at "memd") | (refine List.mem_append.mpr (Or.inr ?_); walk_at "memd") | assumption)
  k_with "~k_mem" => (first | walk_at "memr" | walk_at "memd")
  k_with "~k_in" => (first | with_reducible assumption | exact Frag.In.keeps (by with_reducible assumption) (Fr.keep (by with_reducible assumption)))
  k_with "~k_room" => (((try simp only [depth_under_make, depth_under_kw, depth_in1, depth_deeper, depth_caller]); (try dsimp only [ktrTop]); first | walk_at "room" | omega))
  k_with "~mul_fits" => (k_dflt (exact mulOk_fmod _ _))
  k_with "~exec Raise some none" => ((k_here; (with_reducible show wpAny _ _ (exec (Stmt.Raise (some (Expr.Call (Expr.Name (Str.ofString "ParseError") _) _ _ _)) none _) _) _ _ _); refine Raise_E rfl ?_))
  k_with "~RaiseBack" => ((k_dflt (refine' RaiseBack.intro ?k1_8 ?k2_8 ?k3_8 ?k4_8 ?k5_8 ?_; (case k1_8 => k_asm); (case k2_8 => k_asm); (case k3_8 => k_asm); (case k4_8 => k_is); (case k5_8 => k_mem))))
  k_with "~call ref" => ((k_here; (with_reducible show wpAny _ _ (call (Value.ref 91) _ _) _ _ _); k_dflt (refine' call_excE ?k1_9 ?k2_9 ?k3_9 ?k4_9 ?k5_9 ?k6_9 ?k7_9 ?k8_9 ?k9_9 ?_; (case k1_9 => k_asm); (case k2_9 => k_asm); (case k3_9 => k_asm); (case k4_9 => k_is); (case k5_9 => k_is); (case k6_9 => k_is); (case k7_9 => k_is); (case k8_9 => k_is); (case k9_9 => size_fits); k_whole; intro e' t' h' F' N' l1 l2 l3; (try k_lt l1); (try k_lt2 l2); (try k_lt l3); (try k_sweep); (try dsimp only); k_enter)))
  k_with "~instx" => (first | (refine' inst_exc ?N_10 ?h1_10 ?h2_10; (case N_10 => with_reducible assumption); (case h1_10 => walk_at "memr"); (case h2_10 => walk_at "memr")) | (refine' inst_exc2 ?N_10 ?h1_10 ?hc_10 ?hd_10 ?hn_10 ?h2_10; (case hc_10 => with_reducible assumption); (case hd_10 => with_reducible assumption); (case hn_10 => with_reducible assumption); (case N_10 => with_reducible assumption); (case h1_10 => walk_at "memr"); (case h2_10 => walk_at "memr")))
  k_with "~instn" => ((refine' InstAt.of_news ?N_11 ?h1_11 ?h2_11; (case N_11 => with_reducible assumption); (case h1_11 => walk_at "memr"); (case h2_11 => walk_at "memr")))
  k_with "~k_inst" => (first | walk_at "instn" | walk_at "instx")
  k_with "~setAttr ref" => ((k_here; k_dflt (first | (refine' setE_new ?k1_13 ?k2_13 ?k3_13 ?k4_13 ?k5_13 ?k6_13 ?k6b_13 ?k7_13 ?k8_13 ?k9_13 ?k10_13 ?_; (case k1_13 => k_asm); (case k2_13 => k_asm); (case k3_13 => k_asm); (case k4_13 => k_all); (case k5_13 => k_is); (case k6_13 => k_is); (case k6b_13 => exact rfl); (case k7_13 => k_is); (case k8_13 => k_is); (case k9_13 => k_put); (case k10_13 => exact Nat.le_of_ble_eq_true rfl); k_whole; intro h' dx' F' N' l1 l2; (try k_lt l1); (try k_lt2 l2); (try k_sweep); (try dsimp only)) | (refine' setE_old ?k1_13 ?k2_13 ?k3_13 ?k4_13 ?k5_13 ?k6_13 ?k7_13 ?k7b_13 ?k8_13 ?k9_13 ?k10_13 ?k11_13 ?k12_13 ?k13_13 ?_; (case k1_13 => k_asm); (case k2_13 => k_asm); (case k3_13 => k_asm); (case k4_13 => walk_at "instx"); (case k5_13 => exact rfl); (case k6_13 => k_is); (case k7_13 => k_is); (case k7b_13 => exact rfl); (case k8_13 => k_is); (case k9_13 => k_is); (case k10_13 => k_get); (case k11_13 => k_put); (case k12_13 => k_upd); (case k13_13 => exact Nat.le_of_ble_eq_true rfl); k_whole; intro h' F' N'; (try k_sweep); (try dsimp only)))))
  k_with "~getAttr ref" => ((k_here; k_dflt (refine' getE ?k1_14 ?k2_14 ?k3_14 ?k4_14 ?k5_14 ?k6_14 ?k7_14 ?k8_14 ?k9_14 ?k10_14 ?_; (case k1_14 => k_asm); (case k2_14 => k_asm); (case k3_14 => walk_at "instx"); (case k4_14 => k_is); (case k5_14 => k_is); (case k6_14 => k_is); (case k7_14 => k_is); (case k8_14 => k_is); (case k9_14 => k_get); (case k10_14 => k_handed); k_whole)))
  k_with "~getAttr ref" => ((k_here; k_dflt (refine' get_own ?k1_15 ?k2_15 ?k3_15 ?k4_15 ?k5_15 ?k6_15 ?k7_15 ?k8_15 ?k9_15 ?_; (case k1_15 => k_asm); (case k2_15 => k_asm); (case k3_15 => walk_at "instn"); (case k4_15 => k_is); (case k5_15 => k_is); (case k6_15 => k_is); (case k7_15 => k_is); (case k8_15 => k_get); (case k9_15 => k_handed); k_whole)))
  k_with "~leaving ref" => ((k_here; k_dflt (first | (refine' leave_raiseD2 ?k1_16 ?k2_16 ?k3_16 ?k4_16 ?_; (case k1_16 => k_asm); (case k2_16 => k_asm); (case k3_16 => k_asm); (case k4_16 => k_all); k_whole; intro h' R' U'; (try dsimp only at R' U' ⊢)) | (refine' leave_onD ?k1_16 ?k2_16 ?k3_16 ?k4_16 ?_; (case k3_16 => k_asm); (case k2_16 => k_asm); (case k1_16 => k_asm); (case k4_16 => k_asm); k_whole; intro h' R' U'; (try dsimp only at R' U' ⊢)))))
  k_with "~subscriptTail Attribute Name Attribute ref int" => ((k_here; (with_reducible show wpAny _ _ (subscriptTail _ _ (Value.ref _) (Value.int _ _)) _ _ _); k_dflt (refine' item_ctx ?k1_17 ?k2_17 ?k3_17 ?k4_17 ?k5_17 ?_ ?k6_17; (case k1_17 => k_asm); (case k2_17 => k_mem); (case k3_17 => omega); (case k4_17 => omega); (case k5_17 => k_asm); (case k6_17 => with_unfolding_all rfl); k_whole)))
  k_with "~compareOp Eq str str" => ((k_here; k_dflt (refine eq_ctx (by k_asm) ?_)))
  k_with "~compareOp NotEq str str" => ((k_here; k_dflt (refine ne_ctx (by k_asm) ?_)))
  k_with "~call type:str" => ((k_here; (with_reducible show wpAny _ _ (call (Value.type "str") [Value.int _ _]) _ _ _); k_dflt (refine PySem.P.str_of_int (log_small (by k_asm) (by k_asm)) ?_)))
  k_with "~compareOp NotIn str ref" => ((k_here; k_dflt (first | refine resv_notin (by k_asm) (by k_asm) (by k_asm) ?_ | refine joinw_notin (by k_asm) (by k_asm) (by k_asm) ?_)))
  k_with "~compareOp In str ref" => ((k_here; k_dflt (refine sgn2_in (by k_asm) (by k_asm) (by k_asm) ?_)))
  k_with "~size_fits" => (exact size1000 (by k_asm))
  k_with "~subscriptTail Attribute Name Attribute str int" => ((k_here; (with_reducible show wpAny _ _ (subscriptTail _ _ (Value.str _ _) (Value.int _ _)) _ _ _); k_dflt (refine item_sctx (by k_asm) (by k_asm) ?_)))
  k_with "~compareOp In str str" => ((k_here; k_dflt (refine in_sctx (by k_asm) ?_)))
  k_with "~call builtin:ord" => ((k_here; (with_reducible show wpAny _ _ (call (Value.builtin "ord") [Value.str ⟨#[_]⟩ _]) _ _ _); refine ord_sctx ?_))
  k_with "~TurnI" => ((k_dflt (refine' TurnI.intro ?k1_27 ?k2_27 ?k3_27 ?k4_27; (case k1_27 => k_asm); (case k2_27 => k_asm); (case k3_27 => exact rfl); (case k4_27 => (intro z hz; simp [hz])))))
  k_with "~call builtin:str.isascii" => ((k_here; refine isascii_ctx (by k_asm) ?_))
  k_with "~subscriptTail Name Name str int" => ((k_here; k_dflt (refine item_sctx (by k_asm) (by k_asm) ?_)))
  k_with "~subscriptTail Attribute Name Slice str ref" => ((walk_at "last subscriptTail"))
  k_with "~storeName" => ((k_here; k_dflt (refine' storeX_L ?F_31 ?N_31 ?_ ?a_31 ?b_31; (case F_31 => k_asm); (case N_31 => k_asm); (case a_31 => rfl); (case b_31 => rfl); k_whole; intro h' F' N'; (try k_sweep); (try dsimp only))))
  k_with "~execs cons" => ((k_here; k_fold))
  k_with "~room" => (first | exact room1 (by with_reducible assumption) (Nat.le_of_ble_eq_true rfl) | exact room0 (by with_reducible assumption) (Nat.le_of_ble_eq_true rfl) | exact room2 (by with_reducible assumption) (Nat.le_of_ble_eq_true rfl))
  k_with "~ltc" => (first | (with_reducible assumption) | (with_reducible exact And.left (by with_reducible assumption)) | (with_reducible exact And.left (And.right (by with_reducible assumption))) | (with_reducible exact And.left (And.right (And.right (by with_reducible assumption)))) | (with_reducible exact And.left (And.right (And.right (And.right (by with_reducible assumption))))) | (with_reducible exact And.left (And.right (And.right (And.right (And.right (by with_reducible assumption)))))) | (with_reducible exact And.left (And.right (And.right (And.right (And.right (And.right (by with_reducible assumption))))))) | (with_reducible exact And.left (And.right (And.right (And.right (And.right (And.right (And.right (by with_reducible assumption)))))))) | (with_reducible exact (And.right (by with_reducible assumption))) | (with_reducible exact (And.right (And.right (by with_reducible assumption)))))
  k_with "~k_ne" => (((refine neN ?_); (try dsimp only); first | (with_reducible exact Nat.ne_of_lt (by walk_at "ltc")) | (with_reducible exact Nat.ne_of_gt (by walk_at "ltc"))))
  trivial
set_option maxHeartbeats 8000000 in
theorem gather_ok {sc dsc lf : Addr} {k1 k2 k3 k4 t1 t2 t4 : Tok} {text : Str} {pl gr : Int} {nl : Nat} {items : Array Value} {kind txt : Str} {tk1 tk2 : Tok} {v : Value} {en : Int} {te : Tok}
  (B : Below A₀ base outer h₀) (F : Fr h₀ L s.heap m) (X : (Mine.K1 w.params).In h₀) (N : News h₀ L s.heap ((lf, listOf items nl) :: (dsc, scanD w.params k1 k2 k3 k4 t1 t2 t4 text pl lf gr) :: rest)) (T : Top p loose mean mg mb h₀) (hk : cs.kind = .function)
  (hr : ∀ p ∈ rest, p.1 ≠ dsc) (hr2 : ∀ p ∈ rest, p.1 ≠ lf) (hne : @Ne Nat lf dsc) (h1 : (sc, instObj 266 dsc) ∈ rest) (hsz : items.size ≤ 1000)
  (hd : dp + 10 < recursionLimit)
  (hret : ∀ x dx j1 j2 j3 j4 u1 u2 u4 t2' nl' h' tk', Fr h₀ L h' m → News h₀ L h' ((lf, listOf (items.push (.ref x)) nl') :: (dsc, scanD w.params k1 k2 k3 k4 t1 t2' t4 text en lf gr) :: (x, instObj 161 dx) :: (dx, wordD w.params j1 j2 j3 j4 u1 u2 u4 kind txt v pl) :: rest) → (∀ q ∈ rest, q.1 < dx) → dsc < dx → lf < dx → dx < x → Q .none { s with heap := h', toks := tk' }) :
  wpAny (model prog w) (ktrTop dp un gd cn cs L a ccd cl outer) (call (.ref 186) [.ref sc, .str kind tk1, .str txt tk2, v, .int en te]) Q E s := by
  refine wpAny_call ?_
  k_dflt ktr_enter
  k_steps
  (rename (_ ∧ _ ∧ AllLt _ _) => lX)
  (rename @LT.lt Nat _ _ _ => lY)
  exact hret _ _ _ _ _ _ _ _ _ _ _ _ _ (by k_asm) (news_perm4 (by k_asm)) (ktn_ltOf lX.2.2) lX.2.1 lX.1 (by assumption)
end
section
variable {prog : Program} {w : World} {p : Program} {loose : List Str} {mean : ExcName → Option Value} {mg mb : Str → Option Value}
  {dp un : Nat} {gd : Option (List Code)} {cn : Str} {cs : Scope} {a : Addr} {ccd : Value} {cl : List (Str × Addr)} {outer : List Env} {A₀ : Around} {base h₀ : Heap} {L : Addr} {m : Str → Option Value} {s : Shared}
  {Q E : Value → Shared → Prop} {rest : List (Addr × Obj)}
theorem kw_Sc2 : True := by
  w_top off
  k_with_none
  k_with "~k_all" => (first | with_reducible assumption | exact ne_of_allLt (by with_reducible assumption) | assumption | exact ne_of_allLt (by assumption))
  k_with "~memr" => (first | (with_reducible exact List.mem_cons_self ..) | ((with_reducible refine List.mem_cons_of_mem _ ?_); walk_at "memr") | (with_reducible assumption) | ((with_reducible refine List.mem_append_left _ ?_); walk_at "memr") | ((with_reducible refine List.mem_append_right _ ?_); walk_at "memr"))
  k_with "~memd" => (first | exact List.mem_cons_self .. | (refine List.mem_cons_of_mem _ ?_; walk_at "memd") | (refine List.mem_append.mpr (Or.inl ?_); walk_at "memd") | (refine List.mem_append.mpr (Or.inr ?_); walk_at "memd") | assumption)
  k_with "~k_mem" => (first | walk_at "memr" | walk_at "memd")
  k_with "~k_in" => (first | with_reducible assumption | exact Frag.In.keeps (by with_reducible assumption) (Fr.keep (by with_reducible assumption)))
  k_with "~k_room" => (((try simp only [depth_under_make, depth_under_kw, depth_in1, depth_deeper, depth_caller]); (try dsimp only [ktrTop]); first | walk_at "room" | omega))
  k_with "~mul_fits" => (k_dflt (exact mulOk_fmod _ _))
  k_with "~exec Raise some none" => ((k_here; (with_reducible show wpAny _ _ (exec (Stmt.Raise (some (Expr.Call (Expr.Name (Str.ofString "ParseError") _) _ _ _)) none _) _) _ _ _); refine Raise_E rfl ?_))
  k_with "~RaiseBack" => ((k_dflt (refine' RaiseBack.intro ?k1_8 ?k2_8 ?k3_8 ?k4_8 ?k5_8 ?_; (case k1_8 => k_asm); (case k2_8 => k_asm); (case k3_8 => k_asm); (case k4_8 => k_is); (case k5_8 => k_mem))))
  k_with "~call ref" => ((k_here; (with_reducible show wpAny _ _ (call (Value.ref 91) _ _) _ _ _); k_dflt (refine' call_excE ?k1_9 ?k2_9 ?k3_9 ?k4_9 ?k5_9 ?k6_9 ?k7_9 ?k8_9 ?k9_9 ?_; (case k1_9 => k_asm); (case k2_9 => k_asm); (case k3_9 => k_asm); (case k4_9 => k_is); (case k5_9 => k_is); (case k6_9 => k_is); (case k7_9 => k_is); (case k8_9 => k_is); (case k9_9 => size_fits); k_whole; intro e' t' h' F' N' l1 l2 l3; (try k_lt l1); (try k_lt2 l2); (try k_lt l3); (try k_sweep); (try dsimp only); k_enter)))
  k_with "~instx" => (first | (refine' inst_exc ?N_10 ?h1_10 ?h2_10; (case N_10 => with_reducible assumption); (case h1_10 => walk_at "memr"); (case h2_10 => walk_at "memr")) | (refine' inst_exc2 ?N_10 ?h1_10 ?hc_10 ?hd_10 ?hn_10 ?h2_10; (case hc_10 => with_reducible assumption); (case hd_10 => with_reducible assumption); (case hn_10 => with_reducible assumption); (case N_10 => with_reducible assumption); (case h1_10 => walk_at "memr"); (case h2_10 => walk_at "memr")))
  k_with "~instn" => ((refine' InstAt.of_news ?N_11 ?h1_11 ?h2_11; (case N_11 => with_reducible assumption); (case h1_11 => walk_at "memr"); (case h2_11 => walk_at "memr")))
  k_with "~k_inst" => (first | walk_at "instn" | walk_at "instx")
  k_with "~setAttr ref" => ((k_here; k_dflt (first | (refine' setE_new ?k1_13 ?k2_13 ?k3_13 ?k4_13 ?k5_13 ?k6_13 ?k6b_13 ?k7_13 ?k8_13 ?k9_13 ?k10_13 ?_; (case k1_13 => k_asm); (case k2_13 => k_asm); (case k3_13 => k_asm); (case k4_13 => k_all); (case k5_13 => k_is); (case k6_13 => k_is); (case k6b_13 => exact rfl); (case k7_13 => k_is); (case k8_13 => k_is); (case k9_13 => k_put); (case k10_13 => exact Nat.le_of_ble_eq_true rfl); k_whole; intro h' dx' F' N' l1 l2; (try k_lt l1); (try k_lt2 l2); (try k_sweep); (try dsimp only)) | (refine' setE_old ?k1_13 ?k2_13 ?k3_13 ?k4_13 ?k5_13 ?k6_13 ?k7_13 ?k7b_13 ?k8_13 ?k9_13 ?k10_13 ?k11_13 ?k12_13 ?k13_13 ?_; (case k1_13 => k_asm); (case k2_13 => k_asm); (case k3_13 => k_asm); (case k4_13 => walk_at "instx"); (case k5_13 => exact rfl); (case k6_13 => k_is); (case k7_13 => k_is); (case k7b_13 => exact rfl); (case k8_13 => k_is); (case k9_13 => k_is); (case k10_13 => k_get); (case k11_13 => k_put); (case k12_13 => k_upd); (case k13_13 => exact Nat.le_of_ble_eq_true rfl); k_whole; intro h' F' N'; (try k_sweep); (try dsimp only)))))
  k_with "~getAttr ref" => ((k_here; k_dflt (refine' getE ?k1_14 ?k2_14 ?k3_14 ?k4_14 ?k5_14 ?k6_14 ?k7_14 ?k8_14 ?k9_14 ?k10_14 ?_; (case k1_14 => k_asm); (case k2_14 => k_asm); (case k3_14 => walk_at "instx"); (case k4_14 => k_is); (case k5_14 => k_is); (case k6_14 => k_is); (case k7_14 => k_is); (case k8_14 => k_is); (case k9_14 => k_get); (case k10_14 => k_handed); k_whole)))
  k_with "~getAttr ref" => ((k_here; k_dflt (refine' get_own ?k1_15 ?k2_15 ?k3_15 ?k4_15 ?k5_15 ?k6_15 ?k7_15 ?k8_15 ?k9_15 ?_; (case k1_15 => k_asm); (case k2_15 => k_asm); (case k3_15 => walk_at "instn"); (case k4_15 => k_is); (case k5_15 => k_is); (case k6_15 => k_is); (case k7_15 => k_is); (case k8_15 => k_get); (case k9_15 => k_handed); k_whole)))
  k_with "~leaving ref" => ((k_here; k_dflt (first | (refine' leave_raiseD2 ?k1_16 ?k2_16 ?k3_16 ?k4_16 ?_; (case k1_16 => k_asm); (case k2_16 => k_asm); (case k3_16 => k_asm); (case k4_16 => k_all); k_whole; intro h' R' U'; (try dsimp only at R' U' ⊢)) | (refine' leave_onD ?k1_16 ?k2_16 ?k3_16 ?k4_16 ?_; (case k3_16 => k_asm); (case k2_16 => k_asm); (case k1_16 => k_asm); (case k4_16 => k_asm); k_whole; intro h' R' U'; (try dsimp only at R' U' ⊢)))))
  k_with "~subscriptTail Attribute Name Attribute ref int" => ((k_here; (with_reducible show wpAny _ _ (subscriptTail _ _ (Value.ref _) (Value.int _ _)) _ _ _); k_dflt (refine' item_ctx ?k1_17 ?k2_17 ?k3_17 ?k4_17 ?k5_17 ?_ ?k6_17; (case k1_17 => k_asm); (case k2_17 => k_mem); (case k3_17 => omega); (case k4_17 => omega); (case k5_17 => k_asm); (case k6_17 => with_unfolding_all rfl); k_whole)))
  k_with "~compareOp Eq str str" => ((k_here; k_dflt (refine eq_ctx (by k_asm) ?_)))
  k_with "~compareOp NotEq str str" => ((k_here; k_dflt (refine ne_ctx (by k_asm) ?_)))
  k_with "~call type:str" => ((k_here; (with_reducible show wpAny _ _ (call (Value.type "str") [Value.int _ _]) _ _ _); k_dflt (refine PySem.P.str_of_int (log_small (by k_asm) (by k_asm)) ?_)))
  k_with "~compareOp NotIn str ref" => ((k_here; k_dflt (first | refine resv_notin (by k_asm) (by k_asm) (by k_asm) ?_ | refine joinw_notin (by k_asm) (by k_asm) (by k_asm) ?_)))
  k_with "~compareOp In str ref" => ((k_here; k_dflt (refine sgn2_in (by k_asm) (by k_asm) (by k_asm) ?_)))
  k_with "~size_fits" => (exact size1000 (by k_asm))
  k_with "~subscriptTail Attribute Name Attribute str int" => ((k_here; (with_reducible show wpAny _ _ (subscriptTail _ _ (Value.str _ _) (Value.int _ _)) _ _ _); k_dflt (refine item_sctx (by k_asm) (by k_asm) ?_)))
  k_with "~compareOp In str str" => ((k_here; k_dflt (refine in_sctx (by k_asm) ?_)))
  k_with "~call builtin:ord" => ((k_here; (with_reducible show wpAny _ _ (call (Value.builtin "ord") [Value.str ⟨#[_]⟩ _]) _ _ _); refine ord_sctx ?_))
  k_with "~TurnI" => ((k_dflt (refine' TurnI.intro ?k1_27 ?k2_27 ?k3_27 ?k4_27; (case k1_27 => k_asm); (case k2_27 => k_asm); (case k3_27 => exact rfl); (case k4_27 => (intro z hz; simp [hz])))))
  k_with "~call builtin:str.isascii" => ((k_here; refine isascii_ctx (by k_asm) ?_))
  k_with "~subscriptTail Name Name str int" => ((k_here; k_dflt (refine item_sctx (by k_asm) (by k_asm) ?_)))
  k_with "~subscriptTail Attribute Name Slice str ref" => ((walk_at "last subscriptTail"))
  k_with "~storeName" => ((k_here; k_dflt (refine' storeX_L ?F_31 ?N_31 ?_ ?a_31 ?b_31; (case F_31 => k_asm); (case N_31 => k_asm); (case a_31 => rfl); (case b_31 => rfl); k_whole; intro h' F' N'; (try k_sweep); (try dsimp only))))
  k_with "~execs cons" => ((k_here; k_fold))
  k_with "~room" => (first | exact room1 (by with_reducible assumption) (Nat.le_of_ble_eq_true rfl) | exact room0 (by with_reducible assumption) (Nat.le_of_ble_eq_true rfl) | exact room2 (by with_reducible assumption) (Nat.le_of_ble_eq_true rfl))
  k_with "~ltc" => (first | (with_reducible assumption) | (with_reducible exact And.left (by with_reducible assumption)) | (with_reducible exact And.left (And.right (by with_reducible assumption))) | (with_reducible exact And.left (And.right (And.right (by with_reducible assumption)))) | (with_reducible exact And.left (And.right (And.right (And.right (by with_reducible assumption))))) | (with_reducible exact And.left (And.right (And.right (And.right (And.right (by with_reducible assumption)))))) | (with_reducible exact And.left (And.right (And.right (And.right (And.right (And.right (by with_reducible assumption))))))) | (with_reducible exact And.left (And.right (And.right (And.right (And.right (And.right (And.right (by with_reducible assumption)))))))) | (with_reducible exact (And.right (by with_reducible assumption))) | (with_reducible exact (And.right (And.right (by with_reducible assumption)))))
  k_with "~k_ne" => (((refine neN ?_); (try dsimp only); first | (with_reducible exact Nat.ne_of_lt (by walk_at "ltc")) | (with_reducible exact Nat.ne_of_gt (by walk_at "ltc"))))
  trivial
set_option maxHeartbeats 8000000 in
theorem folded_ok {x : Str} {tx : Tok}
  (B : Below A₀ base outer h₀) (F : Fr h₀ L s.heap m) (X : (Mine.K1 w.params).In h₀) (N : News h₀ L s.heap rest) (T : Top p loose mean mg mb h₀) (hk : cs.kind = .function)
  (hsz : x.length ≤ 1000) (hasc : Txt.isascii x = true)
  (hd : dp + 10 < recursionLimit)
  (hret : ∀ t h' tk', Fr h₀ L h' m → News h₀ L h' rest → Q (.str (Txt.upper x) t) { s with heap := h', toks := tk' }) :
  wpAny (model prog w) (ktrTop dp un gd cn cs L a ccd cl outer) (call (.ref 102) [.str x tx]) Q E s := by
  refine wpAny_call ?_
  k_dflt ktr_enter
  k_steps
  exact hret _ _ _ (by k_asm) (by k_asm)
end
section
variable {prog : Program} {w : World} {p : Program} {loose : List Str} {mean : ExcName → Option Value} {mg mb : Str → Option Value}
  {dp un : Nat} {gd : Option (List Code)} {cn : Str} {cs : Scope} {a : Addr} {ccd : Value} {cl : List (Str × Addr)} {outer : List Env} {A₀ : Around} {base h₀ : Heap} {L : Addr} {m : Str → Option Value} {s : Shared}
  {Q E : Value → Shared → Prop} {rest : List (Addr × Obj)}
theorem kw_Sc3 : True := by
  w_top off
  k_with_none
  k_with "~k_all" => (first | with_reducible assumption | exact ne_of_allLt (by with_reducible assumption) | assumption | exact ne_of_allLt (by assumption))
  k_with "~memr" => (first | (with_reducible exact List.mem_cons_self ..) | ((with_reducible refine List.mem_cons_of_mem _ ?_); walk_at "memr") | (with_reducible assumption) | ((with_reducible refine List.mem_append_left _ ?_); walk_at "memr") | ((with_reducible refine List.mem_append_right _ ?_); walk_at "memr"))
  k_with "~memd" => (first | exact List.mem_cons_self .. | (refine List.mem_cons_of_mem _ ?_; walk_at "memd") | (refine List.mem_append.mpr (Or.inl ?_); walk_at "memd") | (refine List.mem_append.mpr (Or.inr ?_); walk_at "memd") | assumption)
  k_with "~k_mem" => (first | walk_at "memr" | walk_at "memd")
  k_with "~k_in" => (first | with_reducible assumption | exact Frag.In.keeps (by with_reducible assumption) (Fr.keep (by with_reducible assumption)))
  k_with "~k_room" => (((try simp only [depth_under_make, depth_under_kw, depth_in1, depth_deeper, depth_caller]); (try dsimp only [ktrTop]); first | walk_at "room" | omega))
  k_with "~mul_fits" => (k_dflt (exact mulOk_fmod _ _))
  k_with "~exec Raise some none" => ((k_here; (with_reducible show wpAny _ _ (exec (Stmt.Raise (some (Expr.Call (Expr.Name (Str.ofString "ParseError") _) _ _ _)) none _) _) _ _ _); refine Raise_E rfl ?_))
  k_with "~RaiseBack" => ((k_dflt (refine' RaiseBack.intro ?k1_8 ?k2_8 ?k3_8 ?k4_8 ?k5_8 ?_; (case k1_8 => k_asm); (case k2_8 => k_asm); (case k3_8 => k_asm); (case k4_8 => k_is); (case k5_8 => k_mem))))
  k_with "~call ref" => ((k_here; (with_reducible show wpAny _ _ (call (Value.ref 91) _ _) _ _ _); k_dflt (refine' call_excE ?k1_9 ?k2_9 ?k3_9 ?k4_9 ?k5_9 ?k6_9 ?k7_9 ?k8_9 ?k9_9 ?_; (case k1_9 => k_asm); (case k2_9 => k_asm); (case k3_9 => k_asm); (case k4_9 => k_is); (case k5_9 => k_is); (case k6_9 => k_is); (case k7_9 => k_is); (case k8_9 => k_is); (case k9_9 => size_fits); k_whole; intro e' t' h' F' N' l1 l2 l3; (try k_lt l1); (try k_lt2 l2); (try k_lt l3); (try k_sweep); (try dsimp only); k_enter)))
  k_with "~instx" => (first | (refine' inst_exc ?N_10 ?h1_10 ?h2_10; (case N_10 => with_reducible assumption); (case h1_10 => walk_at "memr"); (case h2_10 => walk_at "memr")) | (refine' inst_exc2 ?N_10 ?h1_10 ?hc_10 ?hd_10 ?hn_10 ?h2_10; (case hc_10 => with_reducible assumption); (case hd_10 => with_reducible assumption); (case hn_10 => with_reducible assumption); (case N_10 => with_reducible assumption); (case h1_10 => walk_at "memr"); (case h2_10 => walk_at "memr")))
  k_with "~instn" => ((refine' InstAt.of_news ?N_11 ?h1_11 ?h2_11; (case N_11 => with_reducible assumption); (case h1_11 => walk_at "memr"); (case h2_11 => walk_at "memr")))
  k_with "~k_inst" => (first | walk_at "instn" | walk_at "instx")
  k_with "~setAttr ref" => ((k_here; k_dflt (first | (refine' setE_new ?k1_13 ?k2_13 ?k3_13 ?k4_13 ?k5_13 ?k6_13 ?k6b_13 ?k7_13 ?k8_13 ?k9_13 ?k10_13 ?_; (case k1_13 => k_asm); (case k2_13 => k_asm); (case k3_13 => k_asm); (case k4_13 => k_all); (case k5_13 => k_is); (case k6_13 => k_is); (case k6b_13 => exact rfl); (case k7_13 => k_is); (case k8_13 => k_is); (case k9_13 => k_put); (case k10_13 => exact Nat.le_of_ble_eq_true rfl); k_whole; intro h' dx' F' N' l1 l2; (try k_lt l1); (try k_lt2 l2); (try k_sweep); (try dsimp only)) | (refine' setE_old ?k1_13 ?k2_13 ?k3_13 ?k4_13 ?k5_13 ?k6_13 ?k7_13 ?k7b_13 ?k8_13 ?k9_13 ?k10_13 ?k11_13 ?k12_13 ?k13_13 ?_; (case k1_13 => k_asm); (case k2_13 => k_asm); (case k3_13 => k_asm); (case k4_13 => walk_at "instx"); (case k5_13 => exact rfl); (case k6_13 => k_is); (case k7_13 => k_is); (case k7b_13 => exact rfl); (case k8_13 => k_is); (case k9_13 => k_is); (case k10_13 => k_get); (case k11_13 => k_put); (case k12_13 => k_upd); (case k13_13 => exact Nat.le_of_ble_eq_true rfl); k_whole; intro h' F' N'; (try k_sweep); (try dsimp only)))))
  k_with "~getAttr ref" => ((k_here; k_dflt (refine' getE ?k1_14 ?k2_14 ?k3_14 ?k4_14 ?k5_14 ?k6_14 ?k7_14 ?k8_14 ?k9_14 ?k10_14 ?_; (case k1_14 => k_asm); (case k2_14 => k_asm); (case k3_14 => walk_at "instx"); (case k4_14 => k_is); (case k5_14 => k_is); (case k6_14 => k_is); (case k7_14 => k_is); (case k8_14 => k_is); (case k9_14 => k_get); (case k10_14 => k_handed); k_whole)))
  k_with "~getAttr ref" => ((k_here; k_dflt (refine' get_own ?k1_15 ?k2_15 ?k3_15 ?k4_15 ?k5_15 ?k6_15 ?k7_15 ?k8_15 ?k9_15 ?_; (case k1_15 => k_asm); (case k2_15 => k_asm); (case k3_15 => walk_at "instn"); (case k4_15 => k_is); (case k5_15 => k_is); (case k6_15 => k_is); (case k7_15 => k_is); (case k8_15 => k_get); (case k9_15 => k_handed); k_whole)))
  k_with "~leaving ref" => ((k_here; k_dflt (first | (refine' leave_raiseD2 ?k1_16 ?k2_16 ?k3_16 ?k4_16 ?_; (case k1_16 => k_asm); (case k2_16 => k_asm); (case k3_16 => k_asm); (case k4_16 => k_all); k_whole; intro h' R' U'; (try dsimp only at R' U' ⊢)) | (refine' leave_onD ?k1_16 ?k2_16 ?k3_16 ?k4_16 ?_; (case k3_16 => k_asm); (case k2_16 => k_asm); (case k1_16 => k_asm); (case k4_16 => k_asm); k_whole; intro h' R' U'; (try dsimp only at R' U' ⊢)))))
  k_with "~subscriptTail Attribute Name Attribute ref int" => ((k_here; (with_reducible show wpAny _ _ (subscriptTail _ _ (Value.ref _) (Value.int _ _)) _ _ _); k_dflt (refine' item_ctx ?k1_17 ?k2_17 ?k3_17 ?k4_17 ?k5_17 ?_ ?k6_17; (case k1_17 => k_asm); (case k2_17 => k_mem); (case k3_17 => omega); (case k4_17 => omega); (case k5_17 => k_asm); (case k6_17 => with_unfolding_all rfl); k_whole)))
  k_with "~compareOp Eq str str" => ((k_here; k_dflt (refine eq_ctx (by k_asm) ?_)))
  k_with "~compareOp NotEq str str" => ((k_here; k_dflt (refine ne_ctx (by k_asm) ?_)))
  k_with "~call type:str" => ((k_here; (with_reducible show wpAny _ _ (call (Value.type "str") [Value.int _ _]) _ _ _); k_dflt (refine PySem.P.str_of_int (log_small (by k_asm) (by k_asm)) ?_)))
  k_with "~compareOp NotIn str ref" => ((k_here; k_dflt (first | refine resv_notin (by k_asm) (by k_asm) (by k_asm) ?_ | refine joinw_notin (by k_asm) (by k_asm) (by k_asm) ?_)))
  k_with "~compareOp In str ref" => ((k_here; k_dflt (refine sgn2_in (by k_asm) (by k_asm) (by k_asm) ?_)))
  k_with "~size_fits" => (exact size1000 (by k_asm))
  k_with "~subscriptTail Attribute Name Attribute str int" => ((k_here; (with_reducible show wpAny _ _ (subscriptTail _ _ (Value.str _ _) (Value.int _ _)) _ _ _); k_dflt (refine item_sctx (by k_asm) (by k_asm) ?_)))
  k_with "~compareOp In str str" => ((k_here; k_dflt (refine in_sctx (by k_asm) ?_)))
  k_with "~call builtin:ord" => ((k_here; (with_reducible show wpAny _ _ (call (Value.builtin "ord") [Value.str ⟨#[_]⟩ _]) _ _ _); refine ord_sctx ?_))
  k_with "~TurnI" => ((k_dflt (refine' TurnI.intro ?k1_27 ?k2_27 ?k3_27 ?k4_27; (case k1_27 => k_asm); (case k2_27 => k_asm); (case k3_27 => exact rfl); (case k4_27 => (intro z hz; simp [hz])))))
  k_with "~call builtin:str.isascii" => ((k_here; refine isascii_ctx (by k_asm) ?_))
  k_with "~subscriptTail Name Name str int" => ((k_here; k_dflt (refine item_sctx (by k_asm) (by k_asm) ?_)))
  k_with "~subscriptTail Attribute Name Slice str ref" => ((walk_at "last subscriptTail"))
  k_with "~storeName" => ((k_here; k_dflt (refine' storeX_L ?F_31 ?N_31 ?_ ?a_31 ?b_31; (case F_31 => k_asm); (case N_31 => k_asm); (case a_31 => rfl); (case b_31 => rfl); k_whole; intro h' F' N'; (try k_sweep); (try dsimp only))))
  k_with "~execs cons" => ((k_here; k_fold))
  k_with "~room" => (first | exact room1 (by with_reducible assumption) (Nat.le_of_ble_eq_true rfl) | exact room0 (by with_reducible assumption) (Nat.le_of_ble_eq_true rfl) | exact room2 (by with_reducible assumption) (Nat.le_of_ble_eq_true rfl))
  k_with "~ltc" => (first | (with_reducible assumption) | (with_reducible exact And.left (by with_reducible assumption)) | (with_reducible exact And.left (And.right (by with_reducible assumption))) | (with_reducible exact And.left (And.right (And.right (by with_reducible assumption)))) | (with_reducible exact And.left (And.right (And.right (And.right (by with_reducible assumption))))) | (with_reducible exact And.left (And.right (And.right (And.right (And.right (by with_reducible assumption)))))) | (with_reducible exact And.left (And.right (And.right (And.right (And.right (And.right (by with_reducible assumption))))))) | (with_reducible exact And.left (And.right (And.right (And.right (And.right (And.right (And.right (by with_reducible assumption)))))))) | (with_reducible exact (And.right (by with_reducible assumption))) | (with_reducible exact (And.right (And.right (by with_reducible assumption)))))
  k_with "~k_ne" => (((refine neN ?_); (try dsimp only); first | (with_reducible exact Nat.ne_of_lt (by walk_at "ltc")) | (with_reducible exact Nat.ne_of_gt (by walk_at "ltc"))))
  k_with "~exec While BoolOp" => ((k_here; (rename RunS _ _ _ _ => rsX); (rename StopS _ _ _ => rsY); k_dflt (refine' while_int (y := Str.ofString "end") (And.left rsX) ?h1_45 ?h2_45 ?h3_45 ?h3b_45 ?h4_45 ?h5_45 ?h6_45; (case h1_45 => k_asm); (case h2_45 => k_asm); (case h3_45 => exact rfl); (case h3b_45 => exact rfl); (case' h4_45 => (intro kT tT hT' tkT hT1 hT2 fT nT; obtain ⟨cT, hcT, hiT⟩ := And.right rsX kT hT1 hT2; have hlT := len_of_at hcT; (try k_fold))); (case' h5_45 => (intro tT hT' tkT fT nT; rcases rsY with rfl | ⟨cT, hcT, hiT, hcL, hlT⟩; all_goals (try k_fold))); (case' h6_45 => (intro tT hT' tkT fT nT; (try k_fold))))))
  k_with "~call ref" => ((k_here; (with_reducible show wpAny _ _ (call (Value.ref 102) [Value.str _ _]) _ _ _); k_dflt (refine' folded_ok ?k1_46 ?k2_46 ?k3_46 ?k4_46 ?k5_46 ?k6_46 ?k7_46 ?k8_46 ?k9_46 ?_; (case k1_46 => k_asm); (case k2_46 => k_asm); (case k3_46 => k_asm); (case k4_46 => k_asm); (case k5_46 => k_asm); (case k6_46 => first | exact rfl | assumption); (case k7_46 => exact Nat.le_trans (Txt.length_slice_le _ _ _) (by assumption)); (case k8_46 => assumption); (case k9_46 => k_room); k_whole; intro tF' hF' tkF' fF' nF'; (try k_sweep); (try dsimp only))))
  k_with "~call ref" => ((k_here; (with_reducible show wpAny _ _ (call (Value.ref 186) [Value.ref _, Value.str _ _, Value.str _ _, _, Value.int _ _]) _ _ _); k_dflt (refine' gather_ok ?k1_47 ?k2_47 ?k3_47 ?k4_47 ?k5_47 ?k6_47 ?k7_47 ?k8_47 ?k9_47 ?k10_47 ?k11_47 ?k12_47 ?_; (case k1_47 => k_asm); (case k2_47 => k_asm); (case k3_47 => k_asm); (case k4_47 => first | k_asm | exact news_drop1 (by k_asm) | exact news_drop1 (news_drop1 (by k_asm))); (case k5_47 => k_asm); (case k6_47 => first | exact rfl | assumption); (case k7_47 => assumption); (case k8_47 => assumption); (case k9_47 => assumption); (case k10_47 => first | assumption | k_mem); (case k11_47 => assumption); (case k12_47 => k_room); k_whole; intro xG dxG j1G j2G j3G j4G u1G u2G u4G t2G nlG hG tkG fG nG oG1 oG2 oG3 oG4; (try k_sweep); (try dsimp only))))
  trivial
set_option maxHeartbeats 8000000 in
theorem bare_ok {sc dsc lf : Addr} {k1 k2 k3 k4 t1 t2 t4 : Tok} {text : Str} {pl e : Nat} {gr : Int} {nl : Nat} {items : Array Value} {c : Nat} {tk1 : Tok}
  (B : Below A₀ base outer h₀) (F : Fr h₀ L s.heap m) (X : (Mine.K1 w.params).In h₀) (N : News h₀ L s.heap ((lf, listOf items nl) :: (dsc, scanD w.params k1 k2 k3 k4 t1 t2 t4 text (pl : Int) lf gr) :: rest)) (T : Top p loose mean mg mb h₀) (hk : cs.kind = .function)
  (hr : ∀ p ∈ rest, p.1 ≠ dsc) (hr2 : ∀ p ∈ rest, p.1 ≠ lf) (hne : @Ne Nat lf dsc) (h1 : (sc, instObj 266 dsc) ∈ rest) (hsz : items.size ≤ 1000)
  (hT : text.length ≤ 1000) (hR : RunS NAMES text (pl + 1) e) (hS : StopS NAMES text e) (hnx : inS (Str.ofString "xX") c = false) (hasc : Txt.isascii (Txt.slice text (some (pl : Int)) (some (e : Int))) = true)
  (hd : dp + 20 < recursionLimit)
  (hret : ∀ x dx j1 j2 j3 j4 u1 u2 u3 u4 t2' nl' h' tk', Fr h₀ L h' m → News h₀ L h' ((lf, listOf (items.push (.ref x)) nl') :: (dsc, scanD w.params k1 k2 k3 k4 t1 t2' t4 text (e : Int) lf gr) :: (x, instObj 161 dx) :: (dx, wordD w.params j1 j2 j3 j4 u1 u2 u4 (Str.ofString "name") (Txt.upper (Txt.slice text (some (pl : Int)) (some (e : Int)))) (.str (Txt.slice text (some (pl : Int)) (some (e : Int))) u3) pl) :: rest) → (∀ q ∈ rest, q.1 < dx) → dsc < dx → lf < dx → dx < x → Q .none { s with heap := h', toks := tk' }) :
  wpAny (model prog w) (ktrTop dp un gd cn cs L a ccd cl outer) (call (.ref 214) [.ref sc, .str ⟨#[c]⟩ tk1]) Q E s := by
  refine wpAny_call ?_
  k_dflt ktr_enter
  k_steps
  exact hret _ _ _ _ _ _ _ _ _ _ _ _ _ _ (by k_asm) (by k_asm) (by assumption) (by assumption) (by assumption) (by assumption)
end
section
open PySem PySem.W PySem.Calls PyProof.Rows PySem.NumText PySem.W.KIN
set_option maxHeartbeats 4000000 in
theorem gives_int10 {x : PySem.Str} {u t : Tok} {n : Int} (hk : KIN.Hid ((x.cps.toList.takeWhile (· != 0)).length ≤ 640 ∧ (int_private% "readNumeral") 0 10 (x.cps.toList.takeWhile (· != 0)) = (int_private% "Numeral.value") n ∧ ((x.cps.toList.takeWhile (· != 0)).length == x.cps.toList.length) = true))
    (hasc : x.cps.all (· < 128) = true) : Gives (Builtin.«int.__new__» ⟨[.type "int", .str x u, .int 10 t], []⟩) (.int n) :=
  .of_wp fun M A E s Q h => by
    obtain ⟨hp, g, d, tk, os⟩ := s
    have f1 := F.conv_sub_int
    have f2 := F.madeHere_int
    have f6 : typeOf (.str x u) = pure (.type "str") := rfl
    repeat (any_goals (first
      | assumption
      | wp_step))
    simp only [hasc, if_true]
    rw [if_pos hk.out.1]
    refine wpAny_bind (wpAny_pure ?_)
    rw [show Int.toNat 10 = 10 from rfl, hk.out.2.1]
    dsimp only
    rw [if_pos hk.out.2.2]
    repeat (any_goals (first | assumption | wp_step))
    exact ⟨_, rfl, h⟩
set_option maxHeartbeats 4000000 in
theorem gives_int16 {x : PySem.Str} {u t : Tok} {n : Int} (hk : KIN.Hid ((x.cps.toList.takeWhile (· != 0)).length ≤ 640 ∧ (int_private% "readNumeral") 0 16 (x.cps.toList.takeWhile (· != 0)) = (int_private% "Numeral.value") n ∧ ((x.cps.toList.takeWhile (· != 0)).length == x.cps.toList.length) = true))
    (hasc : x.cps.all (· < 128) = true) : Gives (Builtin.«int.__new__» ⟨[.type "int", .str x u, .int 16 t], []⟩) (.int n) :=
  .of_wp fun M A E s Q h => by
    obtain ⟨hp, g, d, tk, os⟩ := s
    have f1 := F.conv_sub_int
    have f2 := F.madeHere_int
    have f6 : typeOf (.str x u) = pure (.type "str") := rfl
    repeat (any_goals (first
      | assumption
      | wp_step))
    simp only [hasc, if_true]
    rw [if_pos hk.out.1]
    refine wpAny_bind (wpAny_pure ?_)
    rw [show Int.toNat 16 = 16 from rfl, hk.out.2.1]
    dsimp only
    rw [if_pos hk.out.2.2]
    repeat (any_goals (first | assumption | wp_step))
    exact ⟨_, rfl, h⟩

theorem tc_int2 (a b : Value) : checkTypeCall "int" ⟨[a, b], []⟩ = pure () := by kernel_rfl
theorem nc_int2 (a b : Value) : checkBuiltinCall "int.__new__" ⟨[.type "int", a, b], []⟩ = pure () := by kernel_rfl
theorem oi_int2 (a b c : Value) : argsOk "object.__init__" ⟨[a, b, c], []⟩ := by unfold argsOk; kernel_rfl
noncomputable def IntOf (b : Nat) (x : PySem.Str) (n : Int) : Prop :=
  KIN.Hid ((x.cps.toList.takeWhile (· != 0)).length ≤ 640 ∧ (int_private% "readNumeral") 0 b (x.cps.toList.takeWhile (· != 0)) = (int_private% "Numeral.value") n ∧ ((x.cps.toList.takeWhile (· != 0)).length == x.cps.toList.length) = true) ∧ x.cps.all (· < 128) = true
section
variable {prog : Program} {w : World} {A : Around} {E : Value → Shared → Prop} {s : Shared} {Q : Value → Shared → Prop} {x : PySem.Str} {t u : Tok} {n : Int}
theorem int_ctx10 (hk : IntOf 10 x n) (h : Q (.int n s.toks) { s with toks := s.toks + 1 }) : wpAny (model prog w) A (call (.type "int") [.str x t, .int 10 u]) Q E s :=
  callType_new F.called_int F.newNe_int (tc_int2 _ _) (nc_int2 _ _) (fun obj => oi_int2 obj _ _) F.entry_int_new (gives_int10 hk.1 hk.2).meets (show (Made.int n).post _ s from ⟨rfl, h⟩)
theorem int_ctx16 (hk : IntOf 16 x n) (h : Q (.int n s.toks) { s with toks := s.toks + 1 }) : wpAny (model prog w) A (call (.type "int") [.str x t, .int 16 u]) Q E s :=
  callType_new F.called_int F.newNe_int (tc_int2 _ _) (nc_int2 _ _) (fun obj => oi_int2 obj _ _) F.entry_int_new (gives_int16 hk.1 hk.2).meets (show (Made.int n).post _ s from ⟨rfl, h⟩)
end
theorem intOf_t1 : IntOf 10 (Str.ofString "10") 10 := ⟨⟨by decide +kernel, by rfl, by decide +kernel⟩, by decide +kernel⟩
theorem intOf_t2 : IntOf 16 (Str.ofString "1F") 31 := ⟨⟨by decide +kernel, by rfl, by decide +kernel⟩, by decide +kernel⟩
end
section
open PySem PySem.W PySem.Calls PyProof.Rows
section
variable {prog : Program} {w : World} {A : Around} {E : Value → Shared → Prop} {s : Shared}
theorem eq_int_ctx {Q : Value → Shared → Prop} {x y : Int} {t u : Tok} {b : Bool} (hb : (x == y) = b) (h : Q (.bool b) s) : wpAny (model prog w) A (compareOp .Eq (.int x t) (.int y u)) Q E s :=
  PyProof.Rows.eq_int (by rw [hb]; exact h)
theorem in_tup_b {t : Addr} {items : Array Value} {ys : List Str} {x : Str} {u : Tok} {b : Bool} {Q : Value → Shared → Prop} (ht : IsTup s.heap t items) (hi : StrsAre items.toList ys) (hb : ys.any (· == x) = b)
    (h : Q (.bool b) s) : wpAny (model prog w) A (compareOp .In (.str x u) (.ref t)) Q E s := in_tuple_strs ht hi (by rw [hb]; exact h)
theorem find3_ctx {x y : Str} {t u v : Tok} {i n : Int} {Q : Value → Shared → Prop} (hf : Txt.find3 x y i = n) (h : Q (.int n s.toks) { s with toks := s.toks + 1 }) : wpAny (model prog w) A (call (.builtin "str.find") [.str x t, .str y u, .int i v]) Q E s := SC.find3 (by rw [hf]; exact h)
end
end
section
variable {prog : Program} {w : World} {p : Program} {loose : List Str} {mean : ExcName → Option Value} {mg mb : Str → Option Value}
  {dp un : Nat} {gd : Option (List Code)} {cn : Str} {cs : Scope} {a : Addr} {ccd : Value} {cl : List (Str × Addr)} {outer : List Env} {A₀ : Around} {base h₀ : Heap} {L : Addr} {m : Str → Option Value} {s : Shared}
  {Q E : Value → Shared → Prop} {rest : List (Addr × Obj)}
theorem kw_Sn1 : True := by
  w_top off
  k_with_none
  k_with "~k_all" => (first | with_reducible assumption | exact ne_of_allLt (by with_reducible assumption) | assumption | exact ne_of_allLt (by assumption))
  k_with "~memr" => (first | (with_reducible exact List.mem_cons_self ..) | ((with_reducible refine List.mem_cons_of_mem _ ?_); walk_at "memr") | (with_reducible assumption) | ((with_reducible refine List.mem_append_left _ ?_); walk_at "memr") | ((with_reducible refine List.mem_append_right _ ?_); walk_at "memr"))
  k_with "~memd" => (first | exact List.mem_cons_self .. | (refine List.mem_cons_of_mem _ ?_; walk_at "memd") | (refine List.mem_append.mpr (Or.inl ?_); walk_at "memd") | (refine List.mem_append.mpr (Or.inr ?_); walk_at "memd") | assumption)
  k_with "~k_mem" => (first | walk_at "memr" | walk_at "memd")
  k_with "~k_in" => (first | with_reducible assumption | exact Frag.In.keeps (by with_reducible assumption) (Fr.keep (by with_reducible assumption)))
  k_with "~k_room" => (((try simp only [depth_under_make, depth_under_kw, depth_in1, depth_deeper, depth_caller]); (try dsimp only [ktrTop]); first | walk_at "room" | omega))
  k_with "~mul_fits" => (k_dflt (exact mulOk_fmod _ _))
  k_with "~exec Raise some none" => ((k_here; (with_reducible show wpAny _ _ (exec (Stmt.Raise (some (Expr.Call (Expr.Name (Str.ofString "ParseError") _) _ _ _)) none _) _) _ _ _); refine Raise_E rfl ?_))
  k_with "~RaiseBack" => ((k_dflt (refine' RaiseBack.intro ?k1_8 ?k2_8 ?k3_8 ?k4_8 ?k5_8 ?_; (case k1_8 => k_asm); (case k2_8 => k_asm); (case k3_8 => k_asm); (case k4_8 => k_is); (case k5_8 => k_mem))))
  k_with "~call ref" => ((k_here; (with_reducible show wpAny _ _ (call (Value.ref 91) _ _) _ _ _); k_dflt (refine' call_excE ?k1_9 ?k2_9 ?k3_9 ?k4_9 ?k5_9 ?k6_9 ?k7_9 ?k8_9 ?k9_9 ?_; (case k1_9 => k_asm); (case k2_9 => k_asm); (case k3_9 => k_asm); (case k4_9 => k_is); (case k5_9 => k_is); (case k6_9 => k_is); (case k7_9 => k_is); (case k8_9 => k_is); (case k9_9 => size_fits); k_whole; intro e' t' h' F' N' l1 l2 l3; (try k_lt l1); (try k_lt2 l2); (try k_lt l3); (try k_sweep); (try dsimp only); k_enter)))
  k_with "~instx" => (first | (refine' inst_exc ?N_10 ?h1_10 ?h2_10; (case N_10 => with_reducible assumption); (case h1_10 => walk_at "memr"); (case h2_10 => walk_at "memr")) | (refine' inst_exc2 ?N_10 ?h1_10 ?hc_10 ?hd_10 ?hn_10 ?h2_10; (case hc_10 => with_reducible assumption); (case hd_10 => with_reducible assumption); (case hn_10 => with_reducible assumption); (case N_10 => with_reducible assumption); (case h1_10 => walk_at "memr"); (case h2_10 => walk_at "memr")))
  k_with "~instn" => ((refine' InstAt.of_news ?N_11 ?h1_11 ?h2_11; (case N_11 => with_reducible assumption); (case h1_11 => walk_at "memr"); (case h2_11 => walk_at "memr")))
  k_with "~k_inst" => (first | walk_at "instn" | walk_at "instx")
  k_with "~setAttr ref" => ((k_here; k_dflt (first | (refine' setE_new ?k1_13 ?k2_13 ?k3_13 ?k4_13 ?k5_13 ?k6_13 ?k6b_13 ?k7_13 ?k8_13 ?k9_13 ?k10_13 ?_; (case k1_13 => k_asm); (case k2_13 => k_asm); (case k3_13 => k_asm); (case k4_13 => k_all); (case k5_13 => k_is); (case k6_13 => k_is); (case k6b_13 => exact rfl); (case k7_13 => k_is); (case k8_13 => k_is); (case k9_13 => k_put); (case k10_13 => exact Nat.le_of_ble_eq_true rfl); k_whole; intro h' dx' F' N' l1 l2; (try k_lt l1); (try k_lt2 l2); (try k_sweep); (try dsimp only)) | (refine' setE_old ?k1_13 ?k2_13 ?k3_13 ?k4_13 ?k5_13 ?k6_13 ?k7_13 ?k7b_13 ?k8_13 ?k9_13 ?k10_13 ?k11_13 ?k12_13 ?k13_13 ?_; (case k1_13 => k_asm); (case k2_13 => k_asm); (case k3_13 => k_asm); (case k4_13 => walk_at "instx"); (case k5_13 => exact rfl); (case k6_13 => k_is); (case k7_13 => k_is); (case k7b_13 => exact rfl); (case k8_13 => k_is); (case k9_13 => k_is); (case k10_13 => k_get); (case k11_13 => k_put); (case k12_13 => k_upd); (case k13_13 => exact Nat.le_of_ble_eq_true rfl); k_whole; intro h' F' N'; (try k_sweep); (try dsimp only)))))
  k_with "~getAttr ref" => ((k_here; k_dflt (refine' getE ?k1_14 ?k2_14 ?k3_14 ?k4_14 ?k5_14 ?k6_14 ?k7_14 ?k8_14 ?k9_14 ?k10_14 ?_; (case k1_14 => k_asm); (case k2_14 => k_asm); (case k3_14 => walk_at "instx"); (case k4_14 => k_is); (case k5_14 => k_is); (case k6_14 => k_is); (case k7_14 => k_is); (case k8_14 => k_is); (case k9_14 => k_get); (case k10_14 => k_handed); k_whole)))
  k_with "~getAttr ref" => ((k_here; k_dflt (refine' get_own ?k1_15 ?k2_15 ?k3_15 ?k4_15 ?k5_15 ?k6_15 ?k7_15 ?k8_15 ?k9_15 ?_; (case k1_15 => k_asm); (case k2_15 => k_asm); (case k3_15 => walk_at "instn"); (case k4_15 => k_is); (case k5_15 => k_is); (case k6_15 => k_is); (case k7_15 => k_is); (case k8_15 => k_get); (case k9_15 => k_handed); k_whole)))
  k_with "~leaving ref" => ((k_here; k_dflt (first | (refine' leave_raiseD2 ?k1_16 ?k2_16 ?k3_16 ?k4_16 ?_; (case k1_16 => k_asm); (case k2_16 => k_asm); (case k3_16 => k_asm); (case k4_16 => k_all); k_whole; intro h' R' U'; (try dsimp only at R' U' ⊢)) | (refine' leave_onD ?k1_16 ?k2_16 ?k3_16 ?k4_16 ?_; (case k3_16 => k_asm); (case k2_16 => k_asm); (case k1_16 => k_asm); (case k4_16 => k_asm); k_whole; intro h' R' U'; (try dsimp only at R' U' ⊢)))))
  k_with "~subscriptTail Attribute Name Attribute ref int" => ((k_here; (with_reducible show wpAny _ _ (subscriptTail _ _ (Value.ref _) (Value.int _ _)) _ _ _); k_dflt (refine' item_ctx ?k1_17 ?k2_17 ?k3_17 ?k4_17 ?k5_17 ?_ ?k6_17; (case k1_17 => k_asm); (case k2_17 => k_mem); (case k3_17 => omega); (case k4_17 => omega); (case k5_17 => k_asm); (case k6_17 => with_unfolding_all rfl); k_whole)))
  k_with "~compareOp Eq str str" => ((k_here; k_dflt (refine eq_ctx (by k_asm) ?_)))
  k_with "~compareOp NotEq str str" => ((k_here; k_dflt (refine ne_ctx (by k_asm) ?_)))
  k_with "~call type:str" => ((k_here; (with_reducible show wpAny _ _ (call (Value.type "str") [Value.int _ _]) _ _ _); k_dflt (refine PySem.P.str_of_int (log_small (by k_asm) (by k_asm)) ?_)))
  k_with "~compareOp NotIn str ref" => ((k_here; k_dflt (first | refine resv_notin (by k_asm) (by k_asm) (by k_asm) ?_ | refine joinw_notin (by k_asm) (by k_asm) (by k_asm) ?_)))
  k_with "~compareOp In str ref" => ((k_here; k_dflt (refine sgn2_in (by k_asm) (by k_asm) (by k_asm) ?_)))
  k_with "~size_fits" => (exact size1000 (by k_asm))
  k_with "~subscriptTail Attribute Name Attribute str int" => ((k_here; (with_reducible show wpAny _ _ (subscriptTail _ _ (Value.str _ _) (Value.int _ _)) _ _ _); k_dflt (refine item_sctx (by k_asm) (by k_asm) ?_)))
  k_with "~compareOp In str str" => ((k_here; k_dflt (refine in_sctx (by k_asm) ?_)))
  k_with "~call builtin:ord" => ((k_here; (with_reducible show wpAny _ _ (call (Value.builtin "ord") [Value.str ⟨#[_]⟩ _]) _ _ _); refine ord_sctx ?_))
  k_with "~TurnI" => ((k_dflt (refine' TurnI.intro ?k1_27 ?k2_27 ?k3_27 ?k4_27; (case k1_27 => k_asm); (case k2_27 => k_asm); (case k3_27 => exact rfl); (case k4_27 => (intro z hz; simp [hz])))))
  k_with "~call builtin:str.isascii" => ((k_here; refine isascii_ctx (by k_asm) ?_))
  k_with "~subscriptTail Name Name str int" => ((k_here; k_dflt (refine item_sctx (by k_asm) (by k_asm) ?_)))
  k_with "~subscriptTail Attribute Name Slice str ref" => ((walk_at "last subscriptTail"))
  k_with "~storeName" => ((k_here; k_dflt (refine' storeX_L ?F_31 ?N_31 ?_ ?a_31 ?b_31; (case F_31 => k_asm); (case N_31 => k_asm); (case a_31 => rfl); (case b_31 => rfl); k_whole; intro h' F' N'; (try k_sweep); (try dsimp only))))
  k_with "~execs cons" => ((k_here; k_fold))
  k_with "~room" => (first | exact room1 (by with_reducible assumption) (Nat.le_of_ble_eq_true rfl) | exact room0 (by with_reducible assumption) (Nat.le_of_ble_eq_true rfl) | exact room2 (by with_reducible assumption) (Nat.le_of_ble_eq_true rfl))
  k_with "~ltc" => (first | (with_reducible assumption) | (with_reducible exact And.left (by with_reducible assumption)) | (with_reducible exact And.left (And.right (by with_reducible assumption))) | (with_reducible exact And.left (And.right (And.right (by with_reducible assumption)))) | (with_reducible exact And.left (And.right (And.right (And.right (by with_reducible assumption))))) | (with_reducible exact And.left (And.right (And.right (And.right (And.right (by with_reducible assumption)))))) | (with_reducible exact And.left (And.right (And.right (And.right (And.right (And.right (by with_reducible assumption))))))) | (with_reducible exact And.left (And.right (And.right (And.right (And.right (And.right (And.right (by with_reducible assumption)))))))) | (with_reducible exact (And.right (by with_reducible assumption))) | (with_reducible exact (And.right (And.right (by with_reducible assumption)))))
  k_with "~k_ne" => (((refine neN ?_); (try dsimp only); first | (with_reducible exact Nat.ne_of_lt (by walk_at "ltc")) | (with_reducible exact Nat.ne_of_gt (by walk_at "ltc"))))
  k_with "~exec While BoolOp" => ((k_here; (rename RunS _ _ _ _ => rsX); (rename StopS _ _ _ => rsY); k_dflt (refine' while_int (y := Str.ofString "end") (And.left rsX) ?h1_45 ?h2_45 ?h3_45 ?h3b_45 ?h4_45 ?h5_45 ?h6_45; (case h1_45 => k_asm); (case h2_45 => k_asm); (case h3_45 => exact rfl); (case h3b_45 => exact rfl); (case' h4_45 => (intro kT tT hT' tkT hT1 hT2 fT nT; obtain ⟨cT, hcT, hiT⟩ := And.right rsX kT hT1 hT2; have hlT := len_of_at hcT; (try k_fold))); (case' h5_45 => (intro tT hT' tkT fT nT; rcases rsY with rfl | ⟨cT, hcT, hiT, hcL, hlT⟩; all_goals (try k_fold))); (case' h6_45 => (intro tT hT' tkT fT nT; (try k_fold))))))
  trivial
set_option maxHeartbeats 8000000 in
theorem end_ok {sc dsc lf : Addr} {k1 k2 k3 k4 t1 t2 t4 : Tok} {text x : Str} {pl b e : Nat} {gr : Int} {tk1 tk2 : Tok} {bi : Int}
  (B : Below A₀ base outer h₀) (F : Fr h₀ L s.heap m) (X : (Mine.K1 w.params).In h₀) (N : News h₀ L s.heap rest) (T : Top p loose mean mg mb h₀) (hk : cs.kind = .function)
  (h2 : (dsc, scanD w.params k1 k2 k3 k4 t1 t2 t4 text (pl : Int) lf gr) ∈ rest) (h1 : (sc, instObj 266 dsc) ∈ rest)
  (hT : text.length ≤ 1000) (hR : RunS x text b e) (hS : StopS x text e) (hbi : bi = (b : Int))
  (hd : dp + 20 < recursionLimit)
  (hret : ∀ t h' tk', Fr h₀ L h' m → News h₀ L h' rest → Q (.int (e : Int) t) { s with heap := h', toks := tk' }) :
  wpAny (model prog w) (ktrTop dp un gd cn cs L a ccd cl outer) (call (.ref 207) [.ref sc, .str x tk1, .int bi tk2]) Q E s := by
  subst hbi
  refine wpAny_call ?_
  k_dflt ktr_enter
  k_steps
  exact hret _ _ _ (by k_asm) (by k_asm)
end
section
variable {prog : Program} {w : World} {p : Program} {loose : List Str} {mean : ExcName → Option Value} {mg mb : Str → Option Value}
  {dp un : Nat} {gd : Option (List Code)} {cn : Str} {cs : Scope} {a : Addr} {ccd : Value} {cl : List (Str × Addr)} {outer : List Env} {A₀ : Around} {base h₀ : Heap} {L : Addr} {m : Str → Option Value} {s : Shared}
  {Q E : Value → Shared → Prop} {rest : List (Addr × Obj)}
theorem kw_Sn2 : True := by
  w_top off
  k_with_none
  k_with "~k_all" => (first | with_reducible assumption | exact ne_of_allLt (by with_reducible assumption) | assumption | exact ne_of_allLt (by assumption))
  k_with "~memr" => (first | (with_reducible exact List.mem_cons_self ..) | ((with_reducible refine List.mem_cons_of_mem _ ?_); walk_at "memr") | (with_reducible assumption) | ((with_reducible refine List.mem_append_left _ ?_); walk_at "memr") | ((with_reducible refine List.mem_append_right _ ?_); walk_at "memr"))
  k_with "~memd" => (first | exact List.mem_cons_self .. | (refine List.mem_cons_of_mem _ ?_; walk_at "memd") | (refine List.mem_append.mpr (Or.inl ?_); walk_at "memd") | (refine List.mem_append.mpr (Or.inr ?_); walk_at "memd") | assumption)
  k_with "~k_mem" => (first | walk_at "memr" | walk_at "memd")
  k_with "~k_in" => (first | with_reducible assumption | exact Frag.In.keeps (by with_reducible assumption) (Fr.keep (by with_reducible assumption)))
  k_with "~k_room" => (((try simp only [depth_under_make, depth_under_kw, depth_in1, depth_deeper, depth_caller]); (try dsimp only [ktrTop]); first | walk_at "room" | omega))
  k_with "~mul_fits" => (k_dflt (exact mulOk_fmod _ _))
  k_with "~exec Raise some none" => ((k_here; (with_reducible show wpAny _ _ (exec (Stmt.Raise (some (Expr.Call (Expr.Name (Str.ofString "ParseError") _) _ _ _)) none _) _) _ _ _); refine Raise_E rfl ?_))
  k_with "~RaiseBack" => ((k_dflt (refine' RaiseBack.intro ?k1_8 ?k2_8 ?k3_8 ?k4_8 ?k5_8 ?_; (case k1_8 => k_asm); (case k2_8 => k_asm); (case k3_8 => k_asm); (case k4_8 => k_is); (case k5_8 => k_mem))))
  k_with "~call ref" => ((k_here; (with_reducible show wpAny _ _ (call (Value.ref 91) _ _) _ _ _); k_dflt (refine' call_excE ?k1_9 ?k2_9 ?k3_9 ?k4_9 ?k5_9 ?k6_9 ?k7_9 ?k8_9 ?k9_9 ?_; (case k1_9 => k_asm); (case k2_9 => k_asm); (case k3_9 => k_asm); (case k4_9 => k_is); (case k5_9 => k_is); (case k6_9 => k_is); (case k7_9 => k_is); (case k8_9 => k_is); (case k9_9 => size_fits); k_whole; intro e' t' h' F' N' l1 l2 l3; (try k_lt l1); (try k_lt2 l2); (try k_lt l3); (try k_sweep); (try dsimp only); k_enter)))
  k_with "~instx" => (first | (refine' inst_exc ?N_10 ?h1_10 ?h2_10; (case N_10 => with_reducible assumption); (case h1_10 => walk_at "memr"); (case h2_10 => walk_at "memr")) | (refine' inst_exc2 ?N_10 ?h1_10 ?hc_10 ?hd_10 ?hn_10 ?h2_10; (case hc_10 => with_reducible assumption); (case hd_10 => with_reducible assumption); (case hn_10 => with_reducible assumption); (case N_10 => with_reducible assumption); (case h1_10 => walk_at "memr"); (case h2_10 => walk_at "memr")))
  k_with "~instn" => ((refine' InstAt.of_news ?N_11 ?h1_11 ?h2_11; (case N_11 => with_reducible assumption); (case h1_11 => walk_at "memr"); (case h2_11 => walk_at "memr")))
  k_with "~k_inst" => (first | walk_at "instn" | walk_at "instx")
  k_with "~setAttr ref" => ((k_here; k_dflt (first | (refine' setE_new ?k1_13 ?k2_13 ?k3_13 ?k4_13 ?k5_13 ?k6_13 ?k6b_13 ?k7_13 ?k8_13 ?k9_13 ?k10_13 ?_; (case k1_13 => k_asm); (case k2_13 => k_asm); (case k3_13 => k_asm); (case k4_13 => k_all); (case k5_13 => k_is); (case k6_13 => k_is); (case k6b_13 => exact rfl); (case k7_13 => k_is); (case k8_13 => k_is); (case k9_13 => k_put); (case k10_13 => exact Nat.le_of_ble_eq_true rfl); k_whole; intro h' dx' F' N' l1 l2; (try k_lt l1); (try k_lt2 l2); (try k_sweep); (try dsimp only)) | (refine' setE_old ?k1_13 ?k2_13 ?k3_13 ?k4_13 ?k5_13 ?k6_13 ?k7_13 ?k7b_13 ?k8_13 ?k9_13 ?k10_13 ?k11_13 ?k12_13 ?k13_13 ?_; (case k1_13 => k_asm); (case k2_13 => k_asm); (case k3_13 => k_asm); (case k4_13 => walk_at "instx"); (case k5_13 => exact rfl); (case k6_13 => k_is); (case k7_13 => k_is); (case k7b_13 => exact rfl); (case k8_13 => k_is); (case k9_13 => k_is); (case k10_13 => k_get); (case k11_13 => k_put); (case k12_13 => k_upd); (case k13_13 => exact Nat.le_of_ble_eq_true rfl); k_whole; intro h' F' N'; (try k_sweep); (try dsimp only)))))
  k_with "~getAttr ref" => ((k_here; k_dflt (refine' getE ?k1_14 ?k2_14 ?k3_14 ?k4_14 ?k5_14 ?k6_14 ?k7_14 ?k8_14 ?k9_14 ?k10_14 ?_; (case k1_14 => k_asm); (case k2_14 => k_asm); (case k3_14 => walk_at "instx"); (case k4_14 => k_is); (case k5_14 => k_is); (case k6_14 => k_is); (case k7_14 => k_is); (case k8_14 => k_is); (case k9_14 => k_get); (case k10_14 => k_handed); k_whole)))
  k_with "~getAttr ref" => ((k_here; k_dflt (refine' get_own ?k1_15 ?k2_15 ?k3_15 ?k4_15 ?k5_15 ?k6_15 ?k7_15 ?k8_15 ?k9_15 ?_; (case k1_15 => k_asm); (case k2_15 => k_asm); (case k3_15 => walk_at "instn"); (case k4_15 => k_is); (case k5_15 => k_is); (case k6_15 => k_is); (case k7_15 => k_is); (case k8_15 => k_get); (case k9_15 => k_handed); k_whole)))
  k_with "~leaving ref" => ((k_here; k_dflt (first | (refine' leave_raiseD2 ?k1_16 ?k2_16 ?k3_16 ?k4_16 ?_; (case k1_16 => k_asm); (case k2_16 => k_asm); (case k3_16 => k_asm); (case k4_16 => k_all); k_whole; intro h' R' U'; (try dsimp only at R' U' ⊢)) | (refine' leave_onD ?k1_16 ?k2_16 ?k3_16 ?k4_16 ?_; (case k3_16 => k_asm); (case k2_16 => k_asm); (case k1_16 => k_asm); (case k4_16 => k_asm); k_whole; intro h' R' U'; (try dsimp only at R' U' ⊢)))))
  k_with "~subscriptTail Attribute Name Attribute ref int" => ((k_here; (with_reducible show wpAny _ _ (subscriptTail _ _ (Value.ref _) (Value.int _ _)) _ _ _); k_dflt (refine' item_ctx ?k1_17 ?k2_17 ?k3_17 ?k4_17 ?k5_17 ?_ ?k6_17; (case k1_17 => k_asm); (case k2_17 => k_mem); (case k3_17 => omega); (case k4_17 => omega); (case k5_17 => k_asm); (case k6_17 => with_unfolding_all rfl); k_whole)))
  k_with "~compareOp Eq str str" => ((k_here; k_dflt (refine eq_ctx (by k_asm) ?_)))
  k_with "~compareOp NotEq str str" => ((k_here; k_dflt (refine ne_ctx (by k_asm) ?_)))
  k_with "~call type:str" => ((k_here; (with_reducible show wpAny _ _ (call (Value.type "str") [Value.int _ _]) _ _ _); k_dflt (refine PySem.P.str_of_int (log_small (by k_asm) (by k_asm)) ?_)))
  k_with "~compareOp NotIn str ref" => ((k_here; k_dflt (first | refine resv_notin (by k_asm) (by k_asm) (by k_asm) ?_ | refine joinw_notin (by k_asm) (by k_asm) (by k_asm) ?_)))
  k_with "~compareOp In str ref" => ((k_here; k_dflt (refine sgn2_in (by k_asm) (by k_asm) (by k_asm) ?_)))
  k_with "~size_fits" => (exact size1000 (by k_asm))
  k_with "~subscriptTail Attribute Name Attribute str int" => ((k_here; (with_reducible show wpAny _ _ (subscriptTail _ _ (Value.str _ _) (Value.int _ _)) _ _ _); k_dflt (refine item_sctx (by k_asm) (by k_asm) ?_)))
  k_with "~compareOp In str str" => ((k_here; k_dflt (refine in_sctx (by k_asm) ?_)))
  k_with "~call builtin:ord" => ((k_here; (with_reducible show wpAny _ _ (call (Value.builtin "ord") [Value.str ⟨#[_]⟩ _]) _ _ _); refine ord_sctx ?_))
  k_with "~TurnI" => ((k_dflt (refine' TurnI.intro ?k1_27 ?k2_27 ?k3_27 ?k4_27; (case k1_27 => k_asm); (case k2_27 => k_asm); (case k3_27 => exact rfl); (case k4_27 => (intro z hz; simp [hz])))))
  k_with "~call builtin:str.isascii" => ((k_here; refine isascii_ctx (by k_asm) ?_))
  k_with "~subscriptTail Name Name str int" => ((k_here; k_dflt (refine item_sctx (by k_asm) (by k_asm) ?_)))
  k_with "~subscriptTail Attribute Name Slice str ref" => ((walk_at "last subscriptTail"))
  k_with "~storeName" => ((k_here; k_dflt (refine' storeX_L ?F_31 ?N_31 ?_ ?a_31 ?b_31; (case F_31 => k_asm); (case N_31 => k_asm); (case a_31 => rfl); (case b_31 => rfl); k_whole; intro h' F' N'; (try k_sweep); (try dsimp only))))
  k_with "~execs cons" => ((k_here; k_fold))
  k_with "~room" => (first | exact room1 (by with_reducible assumption) (Nat.le_of_ble_eq_true rfl) | exact room0 (by with_reducible assumption) (Nat.le_of_ble_eq_true rfl) | exact room2 (by with_reducible assumption) (Nat.le_of_ble_eq_true rfl))
  k_with "~ltc" => (first | (with_reducible assumption) | (with_reducible exact And.left (by with_reducible assumption)) | (with_reducible exact And.left (And.right (by with_reducible assumption))) | (with_reducible exact And.left (And.right (And.right (by with_reducible assumption)))) | (with_reducible exact And.left (And.right (And.right (And.right (by with_reducible assumption))))) | (with_reducible exact And.left (And.right (And.right (And.right (And.right (by with_reducible assumption)))))) | (with_reducible exact And.left (And.right (And.right (And.right (And.right (And.right (by with_reducible assumption))))))) | (with_reducible exact And.left (And.right (And.right (And.right (And.right (And.right (And.right (by with_reducible assumption)))))))) | (with_reducible exact (And.right (by with_reducible assumption))) | (with_reducible exact (And.right (And.right (by with_reducible assumption)))))
  k_with "~k_ne" => (((refine neN ?_); (try dsimp only); first | (with_reducible exact Nat.ne_of_lt (by walk_at "ltc")) | (with_reducible exact Nat.ne_of_gt (by walk_at "ltc"))))
  k_with "~call type:int" => ((k_here; (with_reducible show wpAny _ _ (call (Value.type "int") [Value.str _ _, Value.int 10 _]) _ _ _); k_dflt (refine int_ctx10 (by assumption) ?_)))
  k_with "~call type:int" => ((k_here; (with_reducible show wpAny _ _ (call (Value.type "int") [Value.str _ _, Value.int 16 _]) _ _ _); k_dflt (refine int_ctx16 (by assumption) ?_)))
  k_with "~compareOp Eq int int" => ((k_here; k_dflt (refine eq_int_ctx (by assumption) ?_)))
  trivial
noncomputable abbrev FIG (text : Str) (b e : Nat) : Str := Txt.lstripChars (Txt.slice text (some (b : Int)) (some (e : Int))) (Str.ofString "0")
/-- what the figures from b to e stand for -/
noncomputable def FigOf (base : Nat) (text : Str) (b e : Nat) (n : Int) : Prop :=
  (FIG text b e).length ≤ 20 ∧ ((((FIG text b e).cps.toList == (Str.ofString "").cps.toList) = true ∧ n = 0) ∨ (((FIG text b e).cps.toList == (Str.ofString "").cps.toList) = false ∧ IntOf base (FIG text b e) n))
theorem int_ctxG {x : Str} {n bz : Int} {bs : Nat} {t u : Tok} {A : Around} (hz : (bz = 10 ∧ bs = 10) ∨ (bz = 16 ∧ bs = 16)) (hk : IntOf bs x n) (h : Q (.int n s.toks) { s with toks := s.toks + 1 }) : wpAny (model prog w) A (call (.type "int") [.str x t, .int bz u]) Q E s := by
  rcases hz with ⟨rfl, rfl⟩ | ⟨rfl, rfl⟩
  · exact int_ctx10 hk h
  · exact int_ctx16 hk h
theorem kw_Sn23 : True := by
  k_with "~call type:int" => ((k_here; (with_reducible show wpAny _ _ (call (Value.type "int") [Value.str _ _, Value.int _ _]) _ _ _); k_dflt (refine int_ctxG (by assumption) (hI (by first | assumption | (cases bq <;> simp_all))) ?_)))
  trivial
set_option maxHeartbeats 8000000 in
theorem valG_ok {sc dsc lf : Addr} {k1 k2 k3 k4 t1 t2 t4 : Tok} {text : Str} {pl b e : Nat} {gr n : Int} {tk1 tk2 tk3 : Tok} {bi bz : Int} {bs : Nat}
  (B : Below A₀ base outer h₀) (F : Fr h₀ L s.heap m) (X : (Mine.K1 w.params).In h₀) (N : News h₀ L s.heap rest) (T : Top p loose mean mg mb h₀) (hk : cs.kind = .function)
  (h2 : (dsc, scanD w.params k1 k2 k3 k4 t1 t2 t4 text (pl : Int) lf gr) ∈ rest) (h1 : (sc, instObj 266 dsc) ∈ rest)
  (hT : text.length ≤ 1000) (hbe : b < e) (hf : FigOf bs text b e n) (hz : (bz = 10 ∧ bs = 10) ∨ (bz = 16 ∧ bs = 16)) (hbi : bi = (b : Int))
  (hd : dp + 20 < recursionLimit)
  (hret : ∀ t h' tk', Fr h₀ L h' m → News h₀ L h' rest → Q (.int n t) { s with heap := h', toks := tk' }) :
  wpAny (model prog w) (ktrTop dp un gd cn cs L a ccd cl outer) (call (.ref 249) [.ref sc, .int bi tk1, .int (e : Int) tk2, .int bz tk3]) Q E s := by
  subst hbi
  have hsl := Nat.le_trans (PyProof.Txt.length_slice_le text (some (b : Int)) (some (e : Int))) hT
  unfold FigOf FIG at hf
  have hbq : (((b : Nat) : Int) == ((e : Nat) : Int)) = false := by rw [beq_eq_false_iff_ne]; omega
  obtain ⟨hf1, hf2⟩ := hf
  obtain ⟨bq, hq⟩ : ∃ q, ((Txt.lstripChars (Txt.slice text (some (b : Int)) (some (e : Int))) (Str.ofString "0")).cps.toList == (Str.ofString "").cps.toList) = q := ⟨_, rfl⟩
  have hI : bq = false → IntOf bs (Txt.lstripChars (Txt.slice text (some (b : Int)) (some (e : Int))) (Str.ofString "0")) n := by
    intro h; rcases hf2 with ⟨h2, _⟩ | ⟨_, h3⟩
    · rw [hq, h] at h2; exact absurd h2 Bool.false_ne_true
    · exact h3
  have hZ : bq = true → n = 0 := by
    intro h; rcases hf2 with ⟨_, h3⟩ | ⟨h2, _⟩
    · exact h3
    · rw [hq, h] at h2; exact absurd h2 (by decide)
  clear hf2
  refine wpAny_call ?_
  k_dflt ktr_enter
  k_steps
  all_goals first
    | exact hret _ _ _ (by k_asm) (by k_asm)
    | (obtain rfl := hZ (by first | assumption | (cases bq <;> simp_all)); exact hret _ _ _ (by k_asm) (by k_asm))
set_option maxHeartbeats 8000000 in
theorem val10_ok {sc dsc lf : Addr} {k1 k2 k3 k4 t1 t2 t4 : Tok} {text : Str} {pl b e : Nat} {gr n : Int} {tk1 tk2 tk3 : Tok}
  (B : Below A₀ base outer h₀) (F : Fr h₀ L s.heap m) (X : (Mine.K1 w.params).In h₀) (N : News h₀ L s.heap rest) (T : Top p loose mean mg mb h₀) (hk : cs.kind = .function)
  (h2 : (dsc, scanD w.params k1 k2 k3 k4 t1 t2 t4 text (pl : Int) lf gr) ∈ rest) (h1 : (sc, instObj 266 dsc) ∈ rest)
  (hT : text.length ≤ 1000) (hbe : b < e) (hf : FigOf 10 text b e n)
  (hd : dp + 20 < recursionLimit)
  (hret : ∀ t h' tk', Fr h₀ L h' m → News h₀ L h' rest → Q (.int n t) { s with heap := h', toks := tk' }) :
  wpAny (model prog w) (ktrTop dp un gd cn cs L a ccd cl outer) (call (.ref 249) [.ref sc, .int (b : Int) tk1, .int (e : Int) tk2, .int 10 tk3]) Q E s :=
  valG_ok B F X N T hk h2 h1 hT hbe hf (.inl ⟨rfl, rfl⟩) rfl hd hret
set_option maxHeartbeats 8000000 in
theorem val16_ok {sc dsc lf : Addr} {k1 k2 k3 k4 t1 t2 t4 : Tok} {text : Str} {pl b e : Nat} {gr n : Int} {tk1 tk2 tk3 : Tok} {bi : Int}
  (B : Below A₀ base outer h₀) (F : Fr h₀ L s.heap m) (X : (Mine.K1 w.params).In h₀) (N : News h₀ L s.heap rest) (T : Top p loose mean mg mb h₀) (hk : cs.kind = .function)
  (h2 : (dsc, scanD w.params k1 k2 k3 k4 t1 t2 t4 text (pl : Int) lf gr) ∈ rest) (h1 : (sc, instObj 266 dsc) ∈ rest)
  (hT : text.length ≤ 1000) (hbe : b < e) (hf : FigOf 16 text b e n) (hbi : bi = (b : Int))
  (hd : dp + 20 < recursionLimit)
  (hret : ∀ t h' tk', Fr h₀ L h' m → News h₀ L h' rest → Q (.int n t) { s with heap := h', toks := tk' }) :
  wpAny (model prog w) (ktrTop dp un gd cn cs L a ccd cl outer) (call (.ref 249) [.ref sc, .int bi tk1, .int (e : Int) tk2, .int 16 tk3]) Q E s :=
  valG_ok B F X N T hk h2 h1 hT hbe hf (.inr ⟨rfl, rfl⟩) hbi hd hret
end
section
variable {prog : Program} {w : World} {p : Program} {loose : List Str} {mean : ExcName → Option Value} {mg mb : Str → Option Value}
  {dp un : Nat} {gd : Option (List Code)} {cn : Str} {cs : Scope} {a : Addr} {ccd : Value} {cl : List (Str × Addr)} {outer : List Env} {A₀ : Around} {base h₀ : Heap} {L : Addr} {m : Str → Option Value} {s : Shared}
  {Q E : Value → Shared → Prop} {rest : List (Addr × Obj)}
theorem kw_Sn3 : True := by
  w_top off
  k_with_none
  k_with "~k_all" => (first | with_reducible assumption | exact ne_of_allLt (by with_reducible assumption) | assumption | exact ne_of_allLt (by assumption))
  k_with "~memr" => (first | (with_reducible exact List.mem_cons_self ..) | ((with_reducible refine List.mem_cons_of_mem _ ?_); walk_at "memr") | (with_reducible assumption) | ((with_reducible refine List.mem_append_left _ ?_); walk_at "memr") | ((with_reducible refine List.mem_append_right _ ?_); walk_at "memr"))
  k_with "~memd" => (first | exact List.mem_cons_self .. | (refine List.mem_cons_of_mem _ ?_; walk_at "memd") | (refine List.mem_append.mpr (Or.inl ?_); walk_at "memd") | (refine List.mem_append.mpr (Or.inr ?_); walk_at "memd") | assumption)
  k_with "~k_mem" => (first | walk_at "memr" | walk_at "memd")
  k_with "~k_in" => (first | with_reducible assumption | exact Frag.In.keeps (by with_reducible assumption) (Fr.keep (by with_reducible assumption)))
  k_with "~k_room" => (((try simp only [depth_under_make, depth_under_kw, depth_in1, depth_deeper, depth_caller]); (try dsimp only [ktrTop]); first | walk_at "room" | omega))
  k_with "~mul_fits" => (k_dflt (exact mulOk_fmod _ _))
  k_with "~exec Raise some none" => ((k_here; (with_reducible show wpAny _ _ (exec (Stmt.Raise (some (Expr.Call (Expr.Name (Str.ofString "ParseError") _) _ _ _)) none _) _) _ _ _); refine Raise_E rfl ?_))
  k_with "~RaiseBack" => ((k_dflt (refine' RaiseBack.intro ?k1_8 ?k2_8 ?k3_8 ?k4_8 ?k5_8 ?_; (case k1_8 => k_asm); (case k2_8 => k_asm); (case k3_8 => k_asm); (case k4_8 => k_is); (case k5_8 => k_mem))))
  k_with "~call ref" => ((k_here; (with_reducible show wpAny _ _ (call (Value.ref 91) _ _) _ _ _); k_dflt (refine' call_excE ?k1_9 ?k2_9 ?k3_9 ?k4_9 ?k5_9 ?k6_9 ?k7_9 ?k8_9 ?k9_9 ?_; (case k1_9 => k_asm); (case k2_9 => k_asm); (case k3_9 => k_asm); (case k4_9 => k_is); (case k5_9 => k_is); (case k6_9 => k_is); (case k7_9 => k_is); (case k8_9 => k_is); (case k9_9 => size_fits); k_whole; intro e' t' h' F' N' l1 l2 l3; (try k_lt l1); (try k_lt2 l2); (try k_lt l3); (try k_sweep); (try dsimp only); k_enter)))
  k_with "~instx" => (first | (refine' inst_exc ?N_10 ?h1_10 ?h2_10; (case N_10 => with_reducible assumption); (case h1_10 => walk_at "memr"); (case h2_10 => walk_at "memr")) | (refine' inst_exc2 ?N_10 ?h1_10 ?hc_10 ?hd_10 ?hn_10 ?h2_10; (case hc_10 => with_reducible assumption); (case hd_10 => with_reducible assumption); (case hn_10 => with_reducible assumption); (case N_10 => with_reducible assumption); (case h1_10 => walk_at "memr"); (case h2_10 => walk_at "memr")))
  k_with "~instn" => ((refine' InstAt.of_news ?N_11 ?h1_11 ?h2_11; (case N_11 => with_reducible assumption); (case h1_11 => walk_at "memr"); (case h2_11 => walk_at "memr")))
  k_with "~k_inst" => (first | walk_at "instn" | walk_at "instx")
  k_with "~setAttr ref" => ((k_here; k_dflt (first | (refine' setE_new ?k1_13 ?k2_13 ?k3_13 ?k4_13 ?k5_13 ?k6_13 ?k6b_13 ?k7_13 ?k8_13 ?k9_13 ?k10_13 ?_; (case k1_13 => k_asm); (case k2_13 => k_asm); (case k3_13 => k_asm); (case k4_13 => k_all); (case k5_13 => k_is); (case k6_13 => k_is); (case k6b_13 => exact rfl); (case k7_13 => k_is); (case k8_13 => k_is); (case k9_13 => k_put); (case k10_13 => exact Nat.le_of_ble_eq_true rfl); k_whole; intro h' dx' F' N' l1 l2; (try k_lt l1); (try k_lt2 l2); (try k_sweep); (try dsimp only)) | (refine' setE_old ?k1_13 ?k2_13 ?k3_13 ?k4_13 ?k5_13 ?k6_13 ?k7_13 ?k7b_13 ?k8_13 ?k9_13 ?k10_13 ?k11_13 ?k12_13 ?k13_13 ?_; (case k1_13 => k_asm); (case k2_13 => k_asm); (case k3_13 => k_asm); (case k4_13 => walk_at "instx"); (case k5_13 => exact rfl); (case k6_13 => k_is); (case k7_13 => k_is); (case k7b_13 => exact rfl); (case k8_13 => k_is); (case k9_13 => k_is); (case k10_13 => k_get); (case k11_13 => k_put); (case k12_13 => k_upd); (case k13_13 => exact Nat.le_of_ble_eq_true rfl); k_whole; intro h' F' N'; (try k_sweep); (try dsimp only)))))
  k_with "~getAttr ref" => ((k_here; k_dflt (refine' getE ?k1_14 ?k2_14 ?k3_14 ?k4_14 ?k5_14 ?k6_14 ?k7_14 ?k8_14 ?k9_14 ?k10_14 ?_; (case k1_14 => k_asm); (case k2_14 => k_asm); (case k3_14 => walk_at "instx"); (case k4_14 => k_is); (case k5_14 => k_is); (case k6_14 => k_is); (case k7_14 => k_is); (case k8_14 => k_is); (case k9_14 => k_get); (case k10_14 => k_handed); k_whole)))
  k_with "~getAttr ref" => ((k_here; k_dflt (refine' get_own ?k1_15 ?k2_15 ?k3_15 ?k4_15 ?k5_15 ?k6_15 ?k7_15 ?k8_15 ?k9_15 ?_; (case k1_15 => k_asm); (case k2_15 => k_asm); (case k3_15 => walk_at "instn"); (case k4_15 => k_is); (case k5_15 => k_is); (case k6_15 => k_is); (case k7_15 => k_is); (case k8_15 => k_get); (case k9_15 => k_handed); k_whole)))
  k_with "~leaving ref" => ((k_here; k_dflt (first | (refine' leave_raiseD2 ?k1_16 ?k2_16 ?k3_16 ?k4_16 ?_; (case k1_16 => k_asm); (case k2_16 => k_asm); (case k3_16 => k_asm); (case k4_16 => k_all); k_whole; intro h' R' U'; (try dsimp only at R' U' ⊢)) | (refine' leave_onD ?k1_16 ?k2_16 ?k3_16 ?k4_16 ?_; (case k3_16 => k_asm); (case k2_16 => k_asm); (case k1_16 => k_asm); (case k4_16 => k_asm); k_whole; intro h' R' U'; (try dsimp only at R' U' ⊢)))))
  k_with "~subscriptTail Attribute Name Attribute ref int" => ((k_here; (with_reducible show wpAny _ _ (subscriptTail _ _ (Value.ref _) (Value.int _ _)) _ _ _); k_dflt (refine' item_ctx ?k1_17 ?k2_17 ?k3_17 ?k4_17 ?k5_17 ?_ ?k6_17; (case k1_17 => k_asm); (case k2_17 => k_mem); (case k3_17 => omega); (case k4_17 => omega); (case k5_17 => k_asm); (case k6_17 => with_unfolding_all rfl); k_whole)))
  k_with "~compareOp Eq str str" => ((k_here; k_dflt (refine eq_ctx (by k_asm) ?_)))
  k_with "~compareOp NotEq str str" => ((k_here; k_dflt (refine ne_ctx (by k_asm) ?_)))
  k_with "~call type:str" => ((k_here; (with_reducible show wpAny _ _ (call (Value.type "str") [Value.int _ _]) _ _ _); k_dflt (refine PySem.P.str_of_int (log_small (by k_asm) (by k_asm)) ?_)))
  k_with "~compareOp NotIn str ref" => ((k_here; k_dflt (first | refine resv_notin (by k_asm) (by k_asm) (by k_asm) ?_ | refine joinw_notin (by k_asm) (by k_asm) (by k_asm) ?_)))
  k_with "~compareOp In str ref" => ((k_here; k_dflt (refine sgn2_in (by k_asm) (by k_asm) (by k_asm) ?_)))
  k_with "~size_fits" => (exact size1000 (by k_asm))
  k_with "~subscriptTail Attribute Name Attribute str int" => ((k_here; (with_reducible show wpAny _ _ (subscriptTail _ _ (Value.str _ _) (Value.int _ _)) _ _ _); k_dflt (refine item_sctx (by k_asm) (by k_asm) ?_)))
  k_with "~compareOp In str str" => ((k_here; k_dflt (refine in_sctx (by k_asm) ?_)))
  k_with "~call builtin:ord" => ((k_here; (with_reducible show wpAny _ _ (call (Value.builtin "ord") [Value.str ⟨#[_]⟩ _]) _ _ _); refine ord_sctx ?_))
  k_with "~TurnI" => ((k_dflt (refine' TurnI.intro ?k1_27 ?k2_27 ?k3_27 ?k4_27; (case k1_27 => k_asm); (case k2_27 => k_asm); (case k3_27 => exact rfl); (case k4_27 => (intro z hz; simp [hz])))))
  k_with "~call builtin:str.isascii" => ((k_here; refine isascii_ctx (by k_asm) ?_))
  k_with "~subscriptTail Name Name str int" => ((k_here; k_dflt (refine item_sctx (by k_asm) (by k_asm) ?_)))
  k_with "~subscriptTail Attribute Name Slice str ref" => ((walk_at "last subscriptTail"))
  k_with "~storeName" => ((k_here; k_dflt (refine' storeX_L ?F_31 ?N_31 ?_ ?a_31 ?b_31; (case F_31 => k_asm); (case N_31 => k_asm); (case a_31 => rfl); (case b_31 => rfl); k_whole; intro h' F' N'; (try k_sweep); (try dsimp only))))
  k_with "~execs cons" => ((k_here; k_fold))
  k_with "~room" => (first | exact room1 (by with_reducible assumption) (Nat.le_of_ble_eq_true rfl) | exact room0 (by with_reducible assumption) (Nat.le_of_ble_eq_true rfl) | exact room2 (by with_reducible assumption) (Nat.le_of_ble_eq_true rfl))
  k_with "~ltc" => (first | (with_reducible assumption) | (with_reducible exact And.left (by with_reducible assumption)) | (with_reducible exact And.left (And.right (by with_reducible assumption))) | (with_reducible exact And.left (And.right (And.right (by with_reducible assumption)))) | (with_reducible exact And.left (And.right (And.right (And.right (by with_reducible assumption))))) | (with_reducible exact And.left (And.right (And.right (And.right (And.right (by with_reducible assumption)))))) | (with_reducible exact And.left (And.right (And.right (And.right (And.right (And.right (by with_reducible assumption))))))) | (with_reducible exact And.left (And.right (And.right (And.right (And.right (And.right (And.right (by with_reducible assumption)))))))) | (with_reducible exact (And.right (by with_reducible assumption))) | (with_reducible exact (And.right (And.right (by with_reducible assumption)))))
  k_with "~k_ne" => (((refine neN ?_); (try dsimp only); first | (with_reducible exact Nat.ne_of_lt (by walk_at "ltc")) | (with_reducible exact Nat.ne_of_gt (by walk_at "ltc"))))
  trivial
set_option maxHeartbeats 8000000 in
theorem goes_ok {x : Str} {tx : Tok} {c : Nat}
  (B : Below A₀ base outer h₀) (F : Fr h₀ L s.heap m) (X : (Mine.K1 w.params).In h₀) (N : News h₀ L s.heap rest) (T : Top p loose mean mg mb h₀) (hk : cs.kind = .function)
  (hx : x = ⟨#[c]⟩) (hc : inS NAMES c = false) (hc2 : c < 128)
  (hd : dp + 10 < recursionLimit)
  (hret : ∀ h' tk', Fr h₀ L h' m → News h₀ L h' rest → Q (.bool false) { s with heap := h', toks := tk' }) :
  wpAny (model prog w) (ktrTop dp un gd cn cs L a ccd cl outer) (call (.ref 109) [.str x tx]) Q E s := by
  subst hx
  refine wpAny_call ?_
  k_dflt ktr_enter
  k_steps
  rw [show decide ((127 : Int) < (c : Int)) = false by rw [decide_eq_false_iff_not]; omega]
  exact hret _ _ (by k_asm) (by k_asm)
end
section
variable {prog : Program} {w : World} {p : Program} {loose : List Str} {mean : ExcName → Option Value} {mg mb : Str → Option Value}
  {dp un : Nat} {gd : Option (List Code)} {cn : Str} {cs : Scope} {a : Addr} {ccd : Value} {cl : List (Str × Addr)} {outer : List Env} {A₀ : Around} {base h₀ : Heap} {L : Addr} {m : Str → Option Value} {s : Shared}
  {Q E : Value → Shared → Prop} {rest : List (Addr × Obj)}
theorem kw_Sn4 : True := by
  w_top off
  k_with_none
  k_with "~k_all" => (first | with_reducible assumption | exact ne_of_allLt (by with_reducible assumption) | assumption | exact ne_of_allLt (by assumption))
  k_with "~memr" => (first | (with_reducible exact List.mem_cons_self ..) | ((with_reducible refine List.mem_cons_of_mem _ ?_); walk_at "memr") | (with_reducible assumption) | ((with_reducible refine List.mem_append_left _ ?_); walk_at "memr") | ((with_reducible refine List.mem_append_right _ ?_); walk_at "memr"))
  k_with "~memd" => (first | exact List.mem_cons_self .. | (refine List.mem_cons_of_mem _ ?_; walk_at "memd") | (refine List.mem_append.mpr (Or.inl ?_); walk_at "memd") | (refine List.mem_append.mpr (Or.inr ?_); walk_at "memd") | assumption)
  k_with "~k_mem" => (first | walk_at "memr" | walk_at "memd")
  k_with "~k_in" => (first | with_reducible assumption | exact Frag.In.keeps (by with_reducible assumption) (Fr.keep (by with_reducible assumption)))
  k_with "~k_room" => (((try simp only [depth_under_make, depth_under_kw, depth_in1, depth_deeper, depth_caller]); (try dsimp only [ktrTop]); first | walk_at "room" | omega))
  k_with "~mul_fits" => (k_dflt (exact mulOk_fmod _ _))
  k_with "~exec Raise some none" => ((k_here; (with_reducible show wpAny _ _ (exec (Stmt.Raise (some (Expr.Call (Expr.Name (Str.ofString "ParseError") _) _ _ _)) none _) _) _ _ _); refine Raise_E rfl ?_))
  k_with "~RaiseBack" => ((k_dflt (refine' RaiseBack.intro ?k1_8 ?k2_8 ?k3_8 ?k4_8 ?k5_8 ?_; (case k1_8 => k_asm); (case k2_8 => k_asm); (case k3_8 => k_asm); (case k4_8 => k_is); (case k5_8 => k_mem))))
  k_with "~call ref" => ((k_here; (with_reducible show wpAny _ _ (call (Value.ref 91) _ _) _ _ _); k_dflt (refine' call_excE ?k1_9 ?k2_9 ?k3_9 ?k4_9 ?k5_9 ?k6_9 ?k7_9 ?k8_9 ?k9_9 ?_; (case k1_9 => k_asm); (case k2_9 => k_asm); (case k3_9 => k_asm); (case k4_9 => k_is); (case k5_9 => k_is); (case k6_9 => k_is); (case k7_9 => k_is); (case k8_9 => k_is); (case k9_9 => size_fits); k_whole; intro e' t' h' F' N' l1 l2 l3; (try k_lt l1); (try k_lt2 l2); (try k_lt l3); (try k_sweep); (try dsimp only); k_enter)))
  k_with "~instx" => (first | (refine' inst_exc ?N_10 ?h1_10 ?h2_10; (case N_10 => with_reducible assumption); (case h1_10 => walk_at "memr"); (case h2_10 => walk_at "memr")) | (refine' inst_exc2 ?N_10 ?h1_10 ?hc_10 ?hd_10 ?hn_10 ?h2_10; (case hc_10 => with_reducible assumption); (case hd_10 => with_reducible assumption); (case hn_10 => with_reducible assumption); (case N_10 => with_reducible assumption); (case h1_10 => walk_at "memr"); (case h2_10 => walk_at "memr")))
  k_with "~instn" => ((refine' InstAt.of_news ?N_11 ?h1_11 ?h2_11; (case N_11 => with_reducible assumption); (case h1_11 => walk_at "memr"); (case h2_11 => walk_at "memr")))
  k_with "~k_inst" => (first | walk_at "instn" | walk_at "instx")
  k_with "~setAttr ref" => ((k_here; k_dflt (first | (refine' setE_new ?k1_13 ?k2_13 ?k3_13 ?k4_13 ?k5_13 ?k6_13 ?k6b_13 ?k7_13 ?k8_13 ?k9_13 ?k10_13 ?_; (case k1_13 => k_asm); (case k2_13 => k_asm); (case k3_13 => k_asm); (case k4_13 => k_all); (case k5_13 => k_is); (case k6_13 => k_is); (case k6b_13 => exact rfl); (case k7_13 => k_is); (case k8_13 => k_is); (case k9_13 => k_put); (case k10_13 => exact Nat.le_of_ble_eq_true rfl); k_whole; intro h' dx' F' N' l1 l2; (try k_lt l1); (try k_lt2 l2); (try k_sweep); (try dsimp only)) | (refine' setE_old ?k1_13 ?k2_13 ?k3_13 ?k4_13 ?k5_13 ?k6_13 ?k7_13 ?k7b_13 ?k8_13 ?k9_13 ?k10_13 ?k11_13 ?k12_13 ?k13_13 ?_; (case k1_13 => k_asm); (case k2_13 => k_asm); (case k3_13 => k_asm); (case k4_13 => walk_at "instx"); (case k5_13 => exact rfl); (case k6_13 => k_is); (case k7_13 => k_is); (case k7b_13 => exact rfl); (case k8_13 => k_is); (case k9_13 => k_is); (case k10_13 => k_get); (case k11_13 => k_put); (case k12_13 => k_upd); (case k13_13 => exact Nat.le_of_ble_eq_true rfl); k_whole; intro h' F' N'; (try k_sweep); (try dsimp only)))))
  k_with "~getAttr ref" => ((k_here; k_dflt (refine' getE ?k1_14 ?k2_14 ?k3_14 ?k4_14 ?k5_14 ?k6_14 ?k7_14 ?k8_14 ?k9_14 ?k10_14 ?_; (case k1_14 => k_asm); (case k2_14 => k_asm); (case k3_14 => walk_at "instx"); (case k4_14 => k_is); (case k5_14 => k_is); (case k6_14 => k_is); (case k7_14 => k_is); (case k8_14 => k_is); (case k9_14 => k_get); (case k10_14 => k_handed); k_whole)))
  k_with "~getAttr ref" => ((k_here; k_dflt (refine' get_own ?k1_15 ?k2_15 ?k3_15 ?k4_15 ?k5_15 ?k6_15 ?k7_15 ?k8_15 ?k9_15 ?_; (case k1_15 => k_asm); (case k2_15 => k_asm); (case k3_15 => walk_at "instn"); (case k4_15 => k_is); (case k5_15 => k_is); (case k6_15 => k_is); (case k7_15 => k_is); (case k8_15 => k_get); (case k9_15 => k_handed); k_whole)))
  k_with "~leaving ref" => ((k_here; k_dflt (first | (refine' leave_raiseD2 ?k1_16 ?k2_16 ?k3_16 ?k4_16 ?_; (case k1_16 => k_asm); (case k2_16 => k_asm); (case k3_16 => k_asm); (case k4_16 => k_all); k_whole; intro h' R' U'; (try dsimp only at R' U' ⊢)) | (refine' leave_onD ?k1_16 ?k2_16 ?k3_16 ?k4_16 ?_; (case k3_16 => k_asm); (case k2_16 => k_asm); (case k1_16 => k_asm); (case k4_16 => k_asm); k_whole; intro h' R' U'; (try dsimp only at R' U' ⊢)))))
  k_with "~subscriptTail Attribute Name Attribute ref int" => ((k_here; (with_reducible show wpAny _ _ (subscriptTail _ _ (Value.ref _) (Value.int _ _)) _ _ _); k_dflt (refine' item_ctx ?k1_17 ?k2_17 ?k3_17 ?k4_17 ?k5_17 ?_ ?k6_17; (case k1_17 => k_asm); (case k2_17 => k_mem); (case k3_17 => omega); (case k4_17 => omega); (case k5_17 => k_asm); (case k6_17 => with_unfolding_all rfl); k_whole)))
  k_with "~compareOp Eq str str" => ((k_here; k_dflt (refine eq_ctx (by k_asm) ?_)))
  k_with "~compareOp NotEq str str" => ((k_here; k_dflt (refine ne_ctx (by k_asm) ?_)))
  k_with "~call type:str" => ((k_here; (with_reducible show wpAny _ _ (call (Value.type "str") [Value.int _ _]) _ _ _); k_dflt (refine PySem.P.str_of_int (log_small (by k_asm) (by k_asm)) ?_)))
  k_with "~compareOp NotIn str ref" => ((k_here; k_dflt (first | refine resv_notin (by k_asm) (by k_asm) (by k_asm) ?_ | refine joinw_notin (by k_asm) (by k_asm) (by k_asm) ?_)))
  k_with "~compareOp In str ref" => ((k_here; k_dflt (refine sgn2_in (by k_asm) (by k_asm) (by k_asm) ?_)))
  k_with "~size_fits" => (exact size1000 (by k_asm))
  k_with "~subscriptTail Attribute Name Attribute str int" => ((k_here; (with_reducible show wpAny _ _ (subscriptTail _ _ (Value.str _ _) (Value.int _ _)) _ _ _); k_dflt (refine item_sctx (by k_asm) (by k_asm) ?_)))
  k_with "~compareOp In str str" => ((k_here; k_dflt (refine in_sctx (by k_asm) ?_)))
  k_with "~call builtin:ord" => ((k_here; (with_reducible show wpAny _ _ (call (Value.builtin "ord") [Value.str ⟨#[_]⟩ _]) _ _ _); refine ord_sctx ?_))
  k_with "~TurnI" => ((k_dflt (refine' TurnI.intro ?k1_27 ?k2_27 ?k3_27 ?k4_27; (case k1_27 => k_asm); (case k2_27 => k_asm); (case k3_27 => exact rfl); (case k4_27 => (intro z hz; simp [hz])))))
  k_with "~call builtin:str.isascii" => ((k_here; refine isascii_ctx (by k_asm) ?_))
  k_with "~subscriptTail Name Name str int" => ((k_here; k_dflt (refine item_sctx (by k_asm) (by k_asm) ?_)))
  k_with "~subscriptTail Attribute Name Slice str ref" => ((walk_at "last subscriptTail"))
  k_with "~storeName" => ((k_here; k_dflt (refine' storeX_L ?F_31 ?N_31 ?_ ?a_31 ?b_31; (case F_31 => k_asm); (case N_31 => k_asm); (case a_31 => rfl); (case b_31 => rfl); k_whole; intro h' F' N'; (try k_sweep); (try dsimp only))))
  k_with "~execs cons" => ((k_here; k_fold))
  k_with "~room" => (first | exact room1 (by with_reducible assumption) (Nat.le_of_ble_eq_true rfl) | exact room0 (by with_reducible assumption) (Nat.le_of_ble_eq_true rfl) | exact room2 (by with_reducible assumption) (Nat.le_of_ble_eq_true rfl))
  k_with "~ltc" => (first | (with_reducible assumption) | (with_reducible exact And.left (by with_reducible assumption)) | (with_reducible exact And.left (And.right (by with_reducible assumption))) | (with_reducible exact And.left (And.right (And.right (by with_reducible assumption)))) | (with_reducible exact And.left (And.right (And.right (And.right (by with_reducible assumption))))) | (with_reducible exact And.left (And.right (And.right (And.right (And.right (by with_reducible assumption)))))) | (with_reducible exact And.left (And.right (And.right (And.right (And.right (And.right (by with_reducible assumption))))))) | (with_reducible exact And.left (And.right (And.right (And.right (And.right (And.right (And.right (by with_reducible assumption)))))))) | (with_reducible exact (And.right (by with_reducible assumption))) | (with_reducible exact (And.right (And.right (by with_reducible assumption)))))
  k_with "~k_ne" => (((refine neN ?_); (try dsimp only); first | (with_reducible exact Nat.ne_of_lt (by walk_at "ltc")) | (with_reducible exact Nat.ne_of_gt (by walk_at "ltc"))))
  k_with "~call type:int" => ((k_here; (with_reducible show wpAny _ _ (call (Value.type "int") [Value.str _ _, Value.int 10 _]) _ _ _); k_dflt (refine int_ctx10 (by assumption) ?_)))
  k_with "~call type:int" => ((k_here; (with_reducible show wpAny _ _ (call (Value.type "int") [Value.str _ _, Value.int 16 _]) _ _ _); k_dflt (refine int_ctx16 (by assumption) ?_)))
  k_with "~compareOp Eq int int" => ((k_here; k_dflt (refine eq_int_ctx (by assumption) ?_)))
  k_with "~call ref" => ((k_here; (with_reducible show wpAny _ _ (call (Value.ref 207) [Value.ref _, Value.str _ _, Value.int _ _]) _ _ _); k_dflt (refine' end_ok ?k1_53 ?k2_53 ?k3_53 ?k4_53 ?k5_53 ?k6_53 ?k7_53 ?k8_53 ?k9_53 ?k10_53 ?k11_53 ?k12_53 ?k13_53 ?_; (case k1_53 => k_asm); (case k2_53 => k_asm); (case k3_53 => k_asm); (case k4_53 => k_asm); (case k5_53 => k_asm); (case k6_53 => first | exact rfl | assumption); (case k7_53 => k_mem); (case k8_53 => k_mem); (case k9_53 => assumption); (case k10_53 => assumption); (case k11_53 => assumption); (case k12_53 => exact rfl); (case k13_53 => k_room); k_whole; intro tG hG tkG fG nG; (try k_sweep); (try dsimp only))))
  k_with "~call ref" => ((k_here; (with_reducible show wpAny _ _ (call (Value.ref 249) [Value.ref _, Value.int _ _, Value.int _ _, Value.int 10 _]) _ _ _); k_dflt (refine' val10_ok ?k1_54 ?k2_54 ?k3_54 ?k4_54 ?k5_54 ?k6_54 ?k7_54 ?k8_54 ?k9_54 ?k10_54 ?k11_54 ?k12_54 ?_; (case k1_54 => k_asm); (case k2_54 => k_asm); (case k3_54 => k_asm); (case k4_54 => k_asm); (case k5_54 => k_asm); (case k6_54 => first | exact rfl | assumption); (case k7_54 => k_mem); (case k8_54 => k_mem); (case k9_54 => assumption); (case k10_54 => assumption); (case k11_54 => assumption); (case k12_54 => k_room); k_whole; intro tG hG tkG fG nG; (try k_sweep); (try dsimp only))))
  k_with "~call ref" => ((k_here; (with_reducible show wpAny _ _ (call (Value.ref 249) [Value.ref _, Value.int _ _, Value.int _ _, Value.int 16 _]) _ _ _); k_dflt (refine' val16_ok ?k1_55 ?k2_55 ?k3_55 ?k4_55 ?k5_55 ?k6_55 ?k7_55 ?k8_55 ?k9_55 ?k10_55 ?k11_55 ?k12_55 ?k13_55 ?_; (case k1_55 => k_asm); (case k2_55 => k_asm); (case k3_55 => k_asm); (case k4_55 => k_asm); (case k5_55 => k_asm); (case k6_55 => first | exact rfl | assumption); (case k7_55 => k_mem); (case k8_55 => k_mem); (case k9_55 => assumption); (case k10_55 => assumption); (case k11_55 => assumption); (case k12_55 => exact rfl); (case k13_55 => k_room); k_whole; intro tG hG tkG fG nG; (try k_sweep); (try dsimp only))))
  k_with "~call ref" => ((k_here; (with_reducible show wpAny _ _ (call (Value.ref 109) [Value.str _ _]) _ _ _); k_dflt (refine' goes_ok ?k1_56 ?k2_56 ?k3_56 ?k4_56 ?k5_56 ?k6_56 ?k7_56 ?k8_56 ?k9_56 ?k10_56 ?_; (case k1_56 => k_asm); (case k2_56 => k_asm); (case k3_56 => k_asm); (case k4_56 => k_asm); (case k5_56 => k_asm); (case k6_56 => first | exact rfl | assumption); (case k7_56 => assumption); (case k8_56 => assumption); (case k9_56 => assumption); (case k10_56 => k_room); k_whole; intro hG tkG fG nG; (try k_sweep); (try dsimp only))))
  k_with "~call ref" => ((k_here; (with_reducible show wpAny _ _ (call (Value.ref 186) [Value.ref _, Value.str _ _, Value.str _ _, _, Value.int _ _]) _ _ _); k_dflt (refine' gather_ok ?k1_47 ?k2_47 ?k3_47 ?k4_47 ?k5_47 ?k6_47 ?k7_47 ?k8_47 ?k9_47 ?k10_47 ?k11_47 ?k12_47 ?_; (case k1_47 => k_asm); (case k2_47 => k_asm); (case k3_47 => k_asm); (case k4_47 => first | k_asm | exact news_drop1 (by k_asm) | exact news_drop1 (news_drop1 (by k_asm))); (case k5_47 => k_asm); (case k6_47 => first | exact rfl | assumption); (case k7_47 => assumption); (case k8_47 => assumption); (case k9_47 => assumption); (case k10_47 => first | assumption | k_mem); (case k11_47 => assumption); (case k12_47 => k_room); k_whole; intro xG dxG j1G j2G j3G j4G u1G u2G u4G t2G nlG hG tkG fG nG oG1 oG2 oG3 oG4; (try k_sweep); (try dsimp only))))
  k_with "~compareOp In str ref" => ((k_here; (with_reducible show wpAny _ _ (compareOp CmpOp.In (Value.str _ _) (Value.ref _)) _ _ _); (with_unfolding_all refine' in_tup_b ?k1_57 ?k2_57 ?k3_57 ?_; (case k1_57 => exact News.isTup (by k_asm) (by news_mem)); (case k2_57 => kde_strs); (case k3_57 => assumption); k_whole)))
  trivial
/-- behind a number: the text's end, or a sign that can stand there -/
noncomputable def StopN (T : Str) (e : Nat) : Prop := e = T.length ∨ ∃ c, T.cps[e]? = some c ∧ inS NAMES c = false ∧ c < 128 ∧ e < T.length ∧ c ≠ 46
noncomputable abbrev SL (T : Str) (i j : Int) : Str := Txt.slice T (some i) (some j)
noncomputable def BehindN (T : Str) (e : Nat) : Prop := ((SL T (e : Int) ((e : Int) + 1)).cps.toList == (Str.ofString "").cps.toList) = true ∨ (((SL T (e : Int) ((e : Int) + 1)).cps.toList == (Str.ofString "").cps.toList) = false ∧ ((SL T (e : Int) ((e : Int) + 1)).cps.toList == (Str.ofString ".").cps.toList) = false ∧ ∃ c, SL T (e : Int) ((e : Int) + 1) = ⟨#[c]⟩ ∧ inS NAMES c = false ∧ c < 128)
theorem ne_behind {A : Around} {x : Str} {t u : Tok} (hB : (x.cps.toList == (Str.ofString "").cps.toList) = true ∨ ((x.cps.toList == (Str.ofString "").cps.toList) = false ∧ (x.cps.toList == (Str.ofString ".").cps.toList) = false ∧ ∃ c, x = ⟨#[c]⟩ ∧ inS NAMES c = false ∧ c < 128))
    (h1 : (x.cps.toList == (Str.ofString "").cps.toList) = true → Q (.bool false) s) (h2 : ∀ c, (x.cps.toList == (Str.ofString "").cps.toList) = false → (x.cps.toList == (Str.ofString ".").cps.toList) = false → x = ⟨#[c]⟩ → inS NAMES c = false → c < 128 → Q (.bool true) s) :
    wpAny (model prog w) A (compareOp .NotEq (.str x t) (.str (Str.ofString "") u)) Q E s := by
  rcases hB with h | ⟨a, b, c, d, e, f⟩
  · exact ne_ctx h (h1 h)
  · exact ne_ctx a (h2 c a b d e f)
theorem kw_Sn44 : True := by
  k_with "~compareOp NotEq str str" => ((k_here; (with_reducible show wpAny _ _ (compareOp CmpOp.NotEq (Value.str _ _) (Value.str (Str.ofString "") _)) _ _ _); k_dflt (refine' ne_behind hB (fun hB1 => ?_) (fun c hB1 hB2 hB3 hB4 hB5 => ?_))))
  trivial
set_option maxHeartbeats 8000000 in
theorem num10_ok {sc dsc lf : Addr} {k1 k2 k3 k4 t1 t2 t4 : Tok} {text : Str} {pl e : Nat} {gr : Int} {nl : Nat} {items : Array Value} {n : Int}
  (B : Below A₀ base outer h₀) (F : Fr h₀ L s.heap m) (X : (Mine.K1 w.params).In h₀) (N : News h₀ L s.heap ((lf, listOf items nl) :: (dsc, scanD w.params k1 k2 k3 k4 t1 t2 t4 text (pl : Int) lf gr) :: rest)) (T : Top p loose mean mg mb h₀) (hk : cs.kind = .function)
  (hr : ∀ p ∈ rest, p.1 ≠ dsc) (hr2 : ∀ p ∈ rest, p.1 ≠ lf) (hne : @Ne Nat lf dsc) (h1 : (sc, instObj 266 dsc) ∈ rest) (hsz : items.size ≤ 1000)
  (hT : text.length ≤ 1000) (hpe : pl < e) (hR : RunS (Str.ofString "0123456789") text pl e) (hS : StopS (Str.ofString "0123456789") text e) (hB : BehindN text e) (hf : FigOf 10 text pl e n) (hn0 : 0 ≤ n) (hn1 : n ≤ 1000000)
  (hx1 : ([Str.ofString "0x", Str.ofString "0X"].any (· == SL text (pl : Int) ((pl : Int) + 2))) = false)
  (hd : dp + 40 < recursionLimit)
  (hret : ∀ x dx j1 j2 j3 j4 u1 u2 u3 u4 t2' nl' h' tk', Fr h₀ L h' m → News h₀ L h' ((lf, listOf (items.push (.ref x)) nl') :: (dsc, scanD w.params k1 k2 k3 k4 t1 t2' t4 text (e : Int) lf gr) :: (x, instObj 161 dx) :: (dx, wordD w.params j1 j2 j3 j4 u1 u2 u4 (Str.ofString "number") (Str.ofString "") (.int n u3) pl) :: rest) → (∀ q ∈ rest, q.1 < dx) → dsc < dx → lf < dx → dx < x → Q .none { s with heap := h', toks := tk' }) :
  wpAny (model prog w) (ktrTop dp un gd cn cs L a ccd cl outer) (call (.ref 242) [.ref sc]) Q E s := by
  unfold BehindN SL at hB
  unfold SL at hx1
  refine wpAny_call ?_
  k_dflt ktr_enter
  k_steps
  all_goals exact hret _ _ _ _ _ _ _ _ _ _ _ _ _ _ (by k_asm) (by k_asm) (by assumption) (by assumption) (by assumption) (by assumption)
end
section
variable {prog : Program} {w : World} {p : Program} {loose : List Str} {mean : ExcName → Option Value} {mg mb : Str → Option Value}
  {dp un : Nat} {gd : Option (List Code)} {cn : Str} {cs : Scope} {a : Addr} {ccd : Value} {cl : List (Str × Addr)} {outer : List Env} {A₀ : Around} {base h₀ : Heap} {L : Addr} {m : Str → Option Value} {s : Shared}
  {Q E : Value → Shared → Prop} {rest : List (Addr × Obj)}
theorem kw_Sn5 : True := by
  w_top off
  k_with_none
  k_with "~k_all" => (first | with_reducible assumption | exact ne_of_allLt (by with_reducible assumption) | assumption | exact ne_of_allLt (by assumption))
  k_with "~memr" => (first | (with_reducible exact List.mem_cons_self ..) | ((with_reducible refine List.mem_cons_of_mem _ ?_); walk_at "memr") | (with_reducible assumption) | ((with_reducible refine List.mem_append_left _ ?_); walk_at "memr") | ((with_reducible refine List.mem_append_right _ ?_); walk_at "memr"))
  k_with "~memd" => (first | exact List.mem_cons_self .. | (refine List.mem_cons_of_mem _ ?_; walk_at "memd") | (refine List.mem_append.mpr (Or.inl ?_); walk_at "memd") | (refine List.mem_append.mpr (Or.inr ?_); walk_at "memd") | assumption)
  k_with "~k_mem" => (first | walk_at "memr" | walk_at "memd")
  k_with "~k_in" => (first | with_reducible assumption | exact Frag.In.keeps (by with_reducible assumption) (Fr.keep (by with_reducible assumption)))
  k_with "~k_room" => (((try simp only [depth_under_make, depth_under_kw, depth_in1, depth_deeper, depth_caller]); (try dsimp only [ktrTop]); first | walk_at "room" | omega))
  k_with "~mul_fits" => (k_dflt (exact mulOk_fmod _ _))
  k_with "~exec Raise some none" => ((k_here; (with_reducible show wpAny _ _ (exec (Stmt.Raise (some (Expr.Call (Expr.Name (Str.ofString "ParseError") _) _ _ _)) none _) _) _ _ _); refine Raise_E rfl ?_))
  k_with "~RaiseBack" => ((k_dflt (refine' RaiseBack.intro ?k1_8 ?k2_8 ?k3_8 ?k4_8 ?k5_8 ?_; (case k1_8 => k_asm); (case k2_8 => k_asm); (case k3_8 => k_asm); (case k4_8 => k_is); (case k5_8 => k_mem))))
  k_with "~call ref" => ((k_here; (with_reducible show wpAny _ _ (call (Value.ref 91) _ _) _ _ _); k_dflt (refine' call_excE ?k1_9 ?k2_9 ?k3_9 ?k4_9 ?k5_9 ?k6_9 ?k7_9 ?k8_9 ?k9_9 ?_; (case k1_9 => k_asm); (case k2_9 => k_asm); (case k3_9 => k_asm); (case k4_9 => k_is); (case k5_9 => k_is); (case k6_9 => k_is); (case k7_9 => k_is); (case k8_9 => k_is); (case k9_9 => size_fits); k_whole; intro e' t' h' F' N' l1 l2 l3; (try k_lt l1); (try k_lt2 l2); (try k_lt l3); (try k_sweep); (try dsimp only); k_enter)))
  k_with "~instx" => (first | (refine' inst_exc ?N_10 ?h1_10 ?h2_10; (case N_10 => with_reducible assumption); (case h1_10 => walk_at "memr"); (case h2_10 => walk_at "memr")) | (refine' inst_exc2 ?N_10 ?h1_10 ?hc_10 ?hd_10 ?hn_10 ?h2_10; (case hc_10 => with_reducible assumption); (case hd_10 => with_reducible assumption); (case hn_10 => with_reducible assumption); (case N_10 => with_reducible assumption); (case h1_10 => walk_at "memr"); (case h2_10 => walk_at "memr")))
  k_with "~instn" => ((refine' InstAt.of_news ?N_11 ?h1_11 ?h2_11; (case N_11 => with_reducible assumption); (case h1_11 => walk_at "memr"); (case h2_11 => walk_at "memr")))
  k_with "~k_inst" => (first | walk_at "instn" | walk_at "instx")
  k_with "~setAttr ref" => ((k_here; k_dflt (first | (refine' setE_new ?k1_13 ?k2_13 ?k3_13 ?k4_13 ?k5_13 ?k6_13 ?k6b_13 ?k7_13 ?k8_13 ?k9_13 ?k10_13 ?_; (case k1_13 => k_asm); (case k2_13 => k_asm); (case k3_13 => k_asm); (case k4_13 => k_all); (case k5_13 => k_is); (case k6_13 => k_is); (case k6b_13 => exact rfl); (case k7_13 => k_is); (case k8_13 => k_is); (case k9_13 => k_put); (case k10_13 => exact Nat.le_of_ble_eq_true rfl); k_whole; intro h' dx' F' N' l1 l2; (try k_lt l1); (try k_lt2 l2); (try k_sweep); (try dsimp only)) | (refine' setE_old ?k1_13 ?k2_13 ?k3_13 ?k4_13 ?k5_13 ?k6_13 ?k7_13 ?k7b_13 ?k8_13 ?k9_13 ?k10_13 ?k11_13 ?k12_13 ?k13_13 ?_; (case k1_13 => k_asm); (case k2_13 => k_asm); (case k3_13 => k_asm); (case k4_13 => walk_at "instx"); (case k5_13 => exact rfl); (case k6_13 => k_is); (case k7_13 => k_is); (case k7b_13 => exact rfl); (case k8_13 => k_is); (case k9_13 => k_is); (case k10_13 => k_get); (case k11_13 => k_put); (case k12_13 => k_upd); (case k13_13 => exact Nat.le_of_ble_eq_true rfl); k_whole; intro h' F' N'; (try k_sweep); (try dsimp only)))))
  k_with "~getAttr ref" => ((k_here; k_dflt (refine' getE ?k1_14 ?k2_14 ?k3_14 ?k4_14 ?k5_14 ?k6_14 ?k7_14 ?k8_14 ?k9_14 ?k10_14 ?_; (case k1_14 => k_asm); (case k2_14 => k_asm); (case k3_14 => walk_at "instx"); (case k4_14 => k_is); (case k5_14 => k_is); (case k6_14 => k_is); (case k7_14 => k_is); (case k8_14 => k_is); (case k9_14 => k_get); (case k10_14 => k_handed); k_whole)))
  k_with "~getAttr ref" => ((k_here; k_dflt (refine' get_own ?k1_15 ?k2_15 ?k3_15 ?k4_15 ?k5_15 ?k6_15 ?k7_15 ?k8_15 ?k9_15 ?_; (case k1_15 => k_asm); (case k2_15 => k_asm); (case k3_15 => walk_at "instn"); (case k4_15 => k_is); (case k5_15 => k_is); (case k6_15 => k_is); (case k7_15 => k_is); (case k8_15 => k_get); (case k9_15 => k_handed); k_whole)))
  k_with "~leaving ref" => ((k_here; k_dflt (first | (refine' leave_raiseD2 ?k1_16 ?k2_16 ?k3_16 ?k4_16 ?_; (case k1_16 => k_asm); (case k2_16 => k_asm); (case k3_16 => k_asm); (case k4_16 => k_all); k_whole; intro h' R' U'; (try dsimp only at R' U' ⊢)) | (refine' leave_onD ?k1_16 ?k2_16 ?k3_16 ?k4_16 ?_; (case k3_16 => k_asm); (case k2_16 => k_asm); (case k1_16 => k_asm); (case k4_16 => k_asm); k_whole; intro h' R' U'; (try dsimp only at R' U' ⊢)))))
  k_with "~subscriptTail Attribute Name Attribute ref int" => ((k_here; (with_reducible show wpAny _ _ (subscriptTail _ _ (Value.ref _) (Value.int _ _)) _ _ _); k_dflt (refine' item_ctx ?k1_17 ?k2_17 ?k3_17 ?k4_17 ?k5_17 ?_ ?k6_17; (case k1_17 => k_asm); (case k2_17 => k_mem); (case k3_17 => omega); (case k4_17 => omega); (case k5_17 => k_asm); (case k6_17 => with_unfolding_all rfl); k_whole)))
  k_with "~compareOp Eq str str" => ((k_here; k_dflt (refine eq_ctx (by k_asm) ?_)))
  k_with "~compareOp NotEq str str" => ((k_here; k_dflt (refine ne_ctx (by k_asm) ?_)))
  k_with "~call type:str" => ((k_here; (with_reducible show wpAny _ _ (call (Value.type "str") [Value.int _ _]) _ _ _); k_dflt (refine PySem.P.str_of_int (log_small (by k_asm) (by k_asm)) ?_)))
  k_with "~compareOp NotIn str ref" => ((k_here; k_dflt (first | refine resv_notin (by k_asm) (by k_asm) (by k_asm) ?_ | refine joinw_notin (by k_asm) (by k_asm) (by k_asm) ?_)))
  k_with "~compareOp In str ref" => ((k_here; k_dflt (refine sgn2_in (by k_asm) (by k_asm) (by k_asm) ?_)))
  k_with "~size_fits" => (exact size1000 (by k_asm))
  k_with "~subscriptTail Attribute Name Attribute str int" => ((k_here; (with_reducible show wpAny _ _ (subscriptTail _ _ (Value.str _ _) (Value.int _ _)) _ _ _); k_dflt (refine item_sctx (by k_asm) (by k_asm) ?_)))
  k_with "~compareOp In str str" => ((k_here; k_dflt (refine in_sctx (by k_asm) ?_)))
  k_with "~call builtin:ord" => ((k_here; (with_reducible show wpAny _ _ (call (Value.builtin "ord") [Value.str ⟨#[_]⟩ _]) _ _ _); refine ord_sctx ?_))
  k_with "~TurnI" => ((k_dflt (refine' TurnI.intro ?k1_27 ?k2_27 ?k3_27 ?k4_27; (case k1_27 => k_asm); (case k2_27 => k_asm); (case k3_27 => exact rfl); (case k4_27 => (intro z hz; simp [hz])))))
  k_with "~call builtin:str.isascii" => ((k_here; refine isascii_ctx (by k_asm) ?_))
  k_with "~subscriptTail Name Name str int" => ((k_here; k_dflt (refine item_sctx (by k_asm) (by k_asm) ?_)))
  k_with "~subscriptTail Attribute Name Slice str ref" => ((walk_at "last subscriptTail"))
  k_with "~storeName" => ((k_here; k_dflt (refine' storeX_L ?F_31 ?N_31 ?_ ?a_31 ?b_31; (case F_31 => k_asm); (case N_31 => k_asm); (case a_31 => rfl); (case b_31 => rfl); k_whole; intro h' F' N'; (try k_sweep); (try dsimp only))))
  k_with "~execs cons" => ((k_here; k_fold))
  k_with "~room" => (first | exact room1 (by with_reducible assumption) (Nat.le_of_ble_eq_true rfl) | exact room0 (by with_reducible assumption) (Nat.le_of_ble_eq_true rfl) | exact room2 (by with_reducible assumption) (Nat.le_of_ble_eq_true rfl))
  k_with "~ltc" => (first | (with_reducible assumption) | (with_reducible exact And.left (by with_reducible assumption)) | (with_reducible exact And.left (And.right (by with_reducible assumption))) | (with_reducible exact And.left (And.right (And.right (by with_reducible assumption)))) | (with_reducible exact And.left (And.right (And.right (And.right (by with_reducible assumption))))) | (with_reducible exact And.left (And.right (And.right (And.right (And.right (by with_reducible assumption)))))) | (with_reducible exact And.left (And.right (And.right (And.right (And.right (And.right (by with_reducible assumption))))))) | (with_reducible exact And.left (And.right (And.right (And.right (And.right (And.right (And.right (by with_reducible assumption)))))))) | (with_reducible exact (And.right (by with_reducible assumption))) | (with_reducible exact (And.right (And.right (by with_reducible assumption)))))
  k_with "~k_ne" => (((refine neN ?_); (try dsimp only); first | (with_reducible exact Nat.ne_of_lt (by walk_at "ltc")) | (with_reducible exact Nat.ne_of_gt (by walk_at "ltc"))))
  k_with "~call type:int" => ((k_here; (with_reducible show wpAny _ _ (call (Value.type "int") [Value.str _ _, Value.int 10 _]) _ _ _); k_dflt (refine int_ctx10 (by assumption) ?_)))
  k_with "~call type:int" => ((k_here; (with_reducible show wpAny _ _ (call (Value.type "int") [Value.str _ _, Value.int 16 _]) _ _ _); k_dflt (refine int_ctx16 (by assumption) ?_)))
  k_with "~compareOp Eq int int" => ((k_here; k_dflt (refine eq_int_ctx (by assumption) ?_)))
  k_with "~call ref" => ((k_here; (with_reducible show wpAny _ _ (call (Value.ref 207) [Value.ref _, Value.str _ _, Value.int _ _]) _ _ _); k_dflt (refine' end_ok ?k1_53 ?k2_53 ?k3_53 ?k4_53 ?k5_53 ?k6_53 ?k7_53 ?k8_53 ?k9_53 ?k10_53 ?k11_53 ?k12_53 ?k13_53 ?_; (case k1_53 => k_asm); (case k2_53 => k_asm); (case k3_53 => k_asm); (case k4_53 => k_asm); (case k5_53 => k_asm); (case k6_53 => first | exact rfl | assumption); (case k7_53 => k_mem); (case k8_53 => k_mem); (case k9_53 => assumption); (case k10_53 => assumption); (case k11_53 => assumption); (case k12_53 => exact rfl); (case k13_53 => k_room); k_whole; intro tG hG tkG fG nG; (try k_sweep); (try dsimp only))))
  k_with "~call ref" => ((k_here; (with_reducible show wpAny _ _ (call (Value.ref 249) [Value.ref _, Value.int _ _, Value.int _ _, Value.int 10 _]) _ _ _); k_dflt (refine' val10_ok ?k1_54 ?k2_54 ?k3_54 ?k4_54 ?k5_54 ?k6_54 ?k7_54 ?k8_54 ?k9_54 ?k10_54 ?k11_54 ?k12_54 ?_; (case k1_54 => k_asm); (case k2_54 => k_asm); (case k3_54 => k_asm); (case k4_54 => k_asm); (case k5_54 => k_asm); (case k6_54 => first | exact rfl | assumption); (case k7_54 => k_mem); (case k8_54 => k_mem); (case k9_54 => assumption); (case k10_54 => assumption); (case k11_54 => assumption); (case k12_54 => k_room); k_whole; intro tG hG tkG fG nG; (try k_sweep); (try dsimp only))))
  k_with "~call ref" => ((k_here; (with_reducible show wpAny _ _ (call (Value.ref 249) [Value.ref _, Value.int _ _, Value.int _ _, Value.int 16 _]) _ _ _); k_dflt (refine' val16_ok ?k1_55 ?k2_55 ?k3_55 ?k4_55 ?k5_55 ?k6_55 ?k7_55 ?k8_55 ?k9_55 ?k10_55 ?k11_55 ?k12_55 ?k13_55 ?_; (case k1_55 => k_asm); (case k2_55 => k_asm); (case k3_55 => k_asm); (case k4_55 => k_asm); (case k5_55 => k_asm); (case k6_55 => first | exact rfl | assumption); (case k7_55 => k_mem); (case k8_55 => k_mem); (case k9_55 => assumption); (case k10_55 => assumption); (case k11_55 => assumption); (case k12_55 => exact rfl); (case k13_55 => k_room); k_whole; intro tG hG tkG fG nG; (try k_sweep); (try dsimp only))))
  k_with "~call ref" => ((k_here; (with_reducible show wpAny _ _ (call (Value.ref 109) [Value.str _ _]) _ _ _); k_dflt (refine' goes_ok ?k1_56 ?k2_56 ?k3_56 ?k4_56 ?k5_56 ?k6_56 ?k7_56 ?k8_56 ?k9_56 ?k10_56 ?_; (case k1_56 => k_asm); (case k2_56 => k_asm); (case k3_56 => k_asm); (case k4_56 => k_asm); (case k5_56 => k_asm); (case k6_56 => first | exact rfl | assumption); (case k7_56 => assumption); (case k8_56 => assumption); (case k9_56 => assumption); (case k10_56 => k_room); k_whole; intro hG tkG fG nG; (try k_sweep); (try dsimp only))))
  k_with "~call ref" => ((k_here; (with_reducible show wpAny _ _ (call (Value.ref 186) [Value.ref _, Value.str _ _, Value.str _ _, _, Value.int _ _]) _ _ _); k_dflt (refine' gather_ok ?k1_47 ?k2_47 ?k3_47 ?k4_47 ?k5_47 ?k6_47 ?k7_47 ?k8_47 ?k9_47 ?k10_47 ?k11_47 ?k12_47 ?_; (case k1_47 => k_asm); (case k2_47 => k_asm); (case k3_47 => k_asm); (case k4_47 => first | k_asm | exact news_drop1 (by k_asm) | exact news_drop1 (news_drop1 (by k_asm))); (case k5_47 => k_asm); (case k6_47 => first | exact rfl | assumption); (case k7_47 => assumption); (case k8_47 => assumption); (case k9_47 => assumption); (case k10_47 => first | assumption | k_mem); (case k11_47 => assumption); (case k12_47 => k_room); k_whole; intro xG dxG j1G j2G j3G j4G u1G u2G u4G t2G nlG hG tkG fG nG oG1 oG2 oG3 oG4; (try k_sweep); (try dsimp only))))
  k_with "~compareOp In str ref" => ((k_here; (with_reducible show wpAny _ _ (compareOp CmpOp.In (Value.str _ _) (Value.ref _)) _ _ _); (with_unfolding_all refine' in_tup_b ?k1_57 ?k2_57 ?k3_57 ?_; (case k1_57 => exact News.isTup (by k_asm) (by news_mem)); (case k2_57 => kde_strs); (case k3_57 => assumption); k_whole)))
  trivial
theorem kw_Sn55 : True := by
  k_with "~compareOp NotEq str str" => ((k_here; (with_reducible show wpAny _ _ (compareOp CmpOp.NotEq (Value.str _ _) (Value.str (Str.ofString "") _)) _ _ _); k_dflt (refine' ne_behind hB (fun hB1 => ?_) (fun c hB1 hB2 hB3 hB4 hB5 => ?_))))
  trivial
set_option maxHeartbeats 8000000 in
theorem num16_ok {sc dsc lf : Addr} {k1 k2 k3 k4 t1 t2 t4 : Tok} {text : Str} {pl e : Nat} {gr : Int} {nl : Nat} {items : Array Value} {n : Int}
  (B : Below A₀ base outer h₀) (F : Fr h₀ L s.heap m) (X : (Mine.K1 w.params).In h₀) (N : News h₀ L s.heap ((lf, listOf items nl) :: (dsc, scanD w.params k1 k2 k3 k4 t1 t2 t4 text (pl : Int) lf gr) :: rest)) (T : Top p loose mean mg mb h₀) (hk : cs.kind = .function)
  (hr : ∀ p ∈ rest, p.1 ≠ dsc) (hr2 : ∀ p ∈ rest, p.1 ≠ lf) (hne : @Ne Nat lf dsc) (h1 : (sc, instObj 266 dsc) ∈ rest) (hsz : items.size ≤ 1000)
  (hT : text.length ≤ 1000) (hpe : pl + 2 < e) (hR : RunS (Str.ofString "0123456789abcdefABCDEF") text (pl + 2) e) (hS : StopS (Str.ofString "0123456789abcdefABCDEF") text e) (hB : BehindN text e) (hf : FigOf 16 text (pl + 2) e n) (hn0 : 0 ≤ n) (hn1 : n ≤ 1000000)
  (hx1 : ([Str.ofString "0x", Str.ofString "0X"].any (· == SL text (pl : Int) ((pl : Int) + 2))) = true)
  (hd : dp + 40 < recursionLimit)
  (hret : ∀ x dx j1 j2 j3 j4 u1 u2 u3 u4 t2' nl' h' tk', Fr h₀ L h' m → News h₀ L h' ((lf, listOf (items.push (.ref x)) nl') :: (dsc, scanD w.params k1 k2 k3 k4 t1 t2' t4 text (e : Int) lf gr) :: (x, instObj 161 dx) :: (dx, wordD w.params j1 j2 j3 j4 u1 u2 u4 (Str.ofString "number") (Str.ofString "") (.int n u3) pl) :: rest) → (∀ q ∈ rest, q.1 < dx) → dsc < dx → lf < dx → dx < x → Q .none { s with heap := h', toks := tk' }) :
  wpAny (model prog w) (ktrTop dp un gd cn cs L a ccd cl outer) (call (.ref 242) [.ref sc]) Q E s := by
  unfold BehindN SL at hB
  unfold SL at hx1
  refine wpAny_call ?_
  k_dflt ktr_enter
  k_steps
  all_goals exact hret _ _ _ _ _ _ _ _ _ _ _ _ _ _ (by k_asm) (by k_asm) (by assumption) (by assumption) (by assumption) (by assumption)
end
section
variable {prog : Program} {w : World} {p : Program} {loose : List Str} {mean : ExcName → Option Value} {mg mb : Str → Option Value}
  {dp un : Nat} {gd : Option (List Code)} {cn : Str} {cs : Scope} {a : Addr} {ccd : Value} {cl : List (Str × Addr)} {outer : List Env} {A₀ : Around} {base h₀ : Heap} {L : Addr} {m : Str → Option Value} {s : Shared}
  {Q E : Value → Shared → Prop} {rest : List (Addr × Obj)}
theorem kw_Sm1 : True := by
  w_top off
  k_with_none
  k_with "~k_all" => (first | with_reducible assumption | exact ne_of_allLt (by with_reducible assumption) | assumption | exact ne_of_allLt (by assumption))
  k_with "~memr" => (first | (with_reducible exact List.mem_cons_self ..) | ((with_reducible refine List.mem_cons_of_mem _ ?_); walk_at "memr") | (with_reducible assumption) | ((with_reducible refine List.mem_append_left _ ?_); walk_at "memr") | ((with_reducible refine List.mem_append_right _ ?_); walk_at "memr"))
  k_with "~memd" => (first | exact List.mem_cons_self .. | (refine List.mem_cons_of_mem _ ?_; walk_at "memd") | (refine List.mem_append.mpr (Or.inl ?_); walk_at "memd") | (refine List.mem_append.mpr (Or.inr ?_); walk_at "memd") | assumption)
  k_with "~k_mem" => (first | walk_at "memr" | walk_at "memd")
  k_with "~k_in" => (first | with_reducible assumption | exact Frag.In.keeps (by with_reducible assumption) (Fr.keep (by with_reducible assumption)))
  k_with "~k_room" => (((try simp only [depth_under_make, depth_under_kw, depth_in1, depth_deeper, depth_caller]); (try dsimp only [ktrTop]); first | walk_at "room" | omega))
  k_with "~mul_fits" => (k_dflt (exact mulOk_fmod _ _))
  k_with "~exec Raise some none" => ((k_here; (with_reducible show wpAny _ _ (exec (Stmt.Raise (some (Expr.Call (Expr.Name (Str.ofString "ParseError") _) _ _ _)) none _) _) _ _ _); refine Raise_E rfl ?_))
  k_with "~RaiseBack" => ((k_dflt (refine' RaiseBack.intro ?k1_8 ?k2_8 ?k3_8 ?k4_8 ?k5_8 ?_; (case k1_8 => k_asm); (case k2_8 => k_asm); (case k3_8 => k_asm); (case k4_8 => k_is); (case k5_8 => k_mem))))
  k_with "~call ref" => ((k_here; (with_reducible show wpAny _ _ (call (Value.ref 91) _ _) _ _ _); k_dflt (refine' call_excE ?k1_9 ?k2_9 ?k3_9 ?k4_9 ?k5_9 ?k6_9 ?k7_9 ?k8_9 ?k9_9 ?_; (case k1_9 => k_asm); (case k2_9 => k_asm); (case k3_9 => k_asm); (case k4_9 => k_is); (case k5_9 => k_is); (case k6_9 => k_is); (case k7_9 => k_is); (case k8_9 => k_is); (case k9_9 => size_fits); k_whole; intro e' t' h' F' N' l1 l2 l3; (try k_lt l1); (try k_lt2 l2); (try k_lt l3); (try k_sweep); (try dsimp only); k_enter)))
  k_with "~instx" => (first | (refine' inst_exc ?N_10 ?h1_10 ?h2_10; (case N_10 => with_reducible assumption); (case h1_10 => walk_at "memr"); (case h2_10 => walk_at "memr")) | (refine' inst_exc2 ?N_10 ?h1_10 ?hc_10 ?hd_10 ?hn_10 ?h2_10; (case hc_10 => with_reducible assumption); (case hd_10 => with_reducible assumption); (case hn_10 => with_reducible assumption); (case N_10 => with_reducible assumption); (case h1_10 => walk_at "memr"); (case h2_10 => walk_at "memr")))
  k_with "~instn" => ((refine' InstAt.of_news ?N_11 ?h1_11 ?h2_11; (case N_11 => with_reducible assumption); (case h1_11 => walk_at "memr"); (case h2_11 => walk_at "memr")))
  k_with "~k_inst" => (first | walk_at "instn" | walk_at "instx")
  k_with "~setAttr ref" => ((k_here; k_dflt (first | (refine' setE_new ?k1_13 ?k2_13 ?k3_13 ?k4_13 ?k5_13 ?k6_13 ?k6b_13 ?k7_13 ?k8_13 ?k9_13 ?k10_13 ?_; (case k1_13 => k_asm); (case k2_13 => k_asm); (case k3_13 => k_asm); (case k4_13 => k_all); (case k5_13 => k_is); (case k6_13 => k_is); (case k6b_13 => exact rfl); (case k7_13 => k_is); (case k8_13 => k_is); (case k9_13 => k_put); (case k10_13 => exact Nat.le_of_ble_eq_true rfl); k_whole; intro h' dx' F' N' l1 l2; (try k_lt l1); (try k_lt2 l2); (try k_sweep); (try dsimp only)) | (refine' setE_old ?k1_13 ?k2_13 ?k3_13 ?k4_13 ?k5_13 ?k6_13 ?k7_13 ?k7b_13 ?k8_13 ?k9_13 ?k10_13 ?k11_13 ?k12_13 ?k13_13 ?_; (case k1_13 => k_asm); (case k2_13 => k_asm); (case k3_13 => k_asm); (case k4_13 => walk_at "instx"); (case k5_13 => exact rfl); (case k6_13 => k_is); (case k7_13 => k_is); (case k7b_13 => exact rfl); (case k8_13 => k_is); (case k9_13 => k_is); (case k10_13 => k_get); (case k11_13 => k_put); (case k12_13 => k_upd); (case k13_13 => exact Nat.le_of_ble_eq_true rfl); k_whole; intro h' F' N'; (try k_sweep); (try dsimp only)))))
  k_with "~getAttr ref" => ((k_here; k_dflt (refine' getE ?k1_14 ?k2_14 ?k3_14 ?k4_14 ?k5_14 ?k6_14 ?k7_14 ?k8_14 ?k9_14 ?k10_14 ?_; (case k1_14 => k_asm); (case k2_14 => k_asm); (case k3_14 => walk_at "instx"); (case k4_14 => k_is); (case k5_14 => k_is); (case k6_14 => k_is); (case k7_14 => k_is); (case k8_14 => k_is); (case k9_14 => k_get); (case k10_14 => k_handed); k_whole)))
  k_with "~getAttr ref" => ((k_here; k_dflt (refine' get_own ?k1_15 ?k2_15 ?k3_15 ?k4_15 ?k5_15 ?k6_15 ?k7_15 ?k8_15 ?k9_15 ?_; (case k1_15 => k_asm); (case k2_15 => k_asm); (case k3_15 => walk_at "instn"); (case k4_15 => k_is); (case k5_15 => k_is); (case k6_15 => k_is); (case k7_15 => k_is); (case k8_15 => k_get); (case k9_15 => k_handed); k_whole)))
  k_with "~leaving ref" => ((k_here; k_dflt (first | (refine' leave_raiseD2 ?k1_16 ?k2_16 ?k3_16 ?k4_16 ?_; (case k1_16 => k_asm); (case k2_16 => k_asm); (case k3_16 => k_asm); (case k4_16 => k_all); k_whole; intro h' R' U'; (try dsimp only at R' U' ⊢)) | (refine' leave_onD ?k1_16 ?k2_16 ?k3_16 ?k4_16 ?_; (case k3_16 => k_asm); (case k2_16 => k_asm); (case k1_16 => k_asm); (case k4_16 => k_asm); k_whole; intro h' R' U'; (try dsimp only at R' U' ⊢)))))
  k_with "~subscriptTail Attribute Name Attribute ref int" => ((k_here; (with_reducible show wpAny _ _ (subscriptTail _ _ (Value.ref _) (Value.int _ _)) _ _ _); k_dflt (refine' item_ctx ?k1_17 ?k2_17 ?k3_17 ?k4_17 ?k5_17 ?_ ?k6_17; (case k1_17 => k_asm); (case k2_17 => k_mem); (case k3_17 => omega); (case k4_17 => omega); (case k5_17 => k_asm); (case k6_17 => with_unfolding_all rfl); k_whole)))
  k_with "~compareOp Eq str str" => ((k_here; k_dflt (refine eq_ctx (by k_asm) ?_)))
  k_with "~compareOp NotEq str str" => ((k_here; k_dflt (refine ne_ctx (by k_asm) ?_)))
  k_with "~call type:str" => ((k_here; (with_reducible show wpAny _ _ (call (Value.type "str") [Value.int _ _]) _ _ _); k_dflt (refine PySem.P.str_of_int (log_small (by k_asm) (by k_asm)) ?_)))
  k_with "~compareOp NotIn str ref" => ((k_here; k_dflt (first | refine resv_notin (by k_asm) (by k_asm) (by k_asm) ?_ | refine joinw_notin (by k_asm) (by k_asm) (by k_asm) ?_)))
  k_with "~compareOp In str ref" => ((k_here; k_dflt (refine sgn2_in (by k_asm) (by k_asm) (by k_asm) ?_)))
  k_with "~size_fits" => (exact size1000 (by k_asm))
  k_with "~subscriptTail Attribute Name Attribute str int" => ((k_here; (with_reducible show wpAny _ _ (subscriptTail _ _ (Value.str _ _) (Value.int _ _)) _ _ _); k_dflt (refine item_sctx (by k_asm) (by k_asm) ?_)))
  k_with "~compareOp In str str" => ((k_here; k_dflt (refine in_sctx (by k_asm) ?_)))
  k_with "~call builtin:ord" => ((k_here; (with_reducible show wpAny _ _ (call (Value.builtin "ord") [Value.str ⟨#[_]⟩ _]) _ _ _); refine ord_sctx ?_))
  k_with "~TurnI" => ((k_dflt (refine' TurnI.intro ?k1_27 ?k2_27 ?k3_27 ?k4_27; (case k1_27 => k_asm); (case k2_27 => k_asm); (case k3_27 => exact rfl); (case k4_27 => (intro z hz; simp [hz])))))
  k_with "~call builtin:str.isascii" => ((k_here; refine isascii_ctx (by k_asm) ?_))
  k_with "~subscriptTail Name Name str int" => ((k_here; k_dflt (refine item_sctx (by k_asm) (by k_asm) ?_)))
  k_with "~subscriptTail Attribute Name Slice str ref" => ((walk_at "last subscriptTail"))
  k_with "~storeName" => ((k_here; k_dflt (refine' storeX_L ?F_31 ?N_31 ?_ ?a_31 ?b_31; (case F_31 => k_asm); (case N_31 => k_asm); (case a_31 => rfl); (case b_31 => rfl); k_whole; intro h' F' N'; (try k_sweep); (try dsimp only))))
  k_with "~execs cons" => ((k_here; k_fold))
  k_with "~room" => (first | exact room1 (by with_reducible assumption) (Nat.le_of_ble_eq_true rfl) | exact room0 (by with_reducible assumption) (Nat.le_of_ble_eq_true rfl) | exact room2 (by with_reducible assumption) (Nat.le_of_ble_eq_true rfl))
  k_with "~ltc" => (first | (with_reducible assumption) | (with_reducible exact And.left (by with_reducible assumption)) | (with_reducible exact And.left (And.right (by with_reducible assumption))) | (with_reducible exact And.left (And.right (And.right (by with_reducible assumption)))) | (with_reducible exact And.left (And.right (And.right (And.right (by with_reducible assumption))))) | (with_reducible exact And.left (And.right (And.right (And.right (And.right (by with_reducible assumption)))))) | (with_reducible exact And.left (And.right (And.right (And.right (And.right (And.right (by with_reducible assumption))))))) | (with_reducible exact And.left (And.right (And.right (And.right (And.right (And.right (And.right (by with_reducible assumption)))))))) | (with_reducible exact (And.right (by with_reducible assumption))) | (with_reducible exact (And.right (And.right (by with_reducible assumption)))))
  k_with "~k_ne" => (((refine neN ?_); (try dsimp only); first | (with_reducible exact Nat.ne_of_lt (by walk_at "ltc")) | (with_reducible exact Nat.ne_of_gt (by walk_at "ltc"))))
  k_with "~call ref" => ((k_here; (with_reducible show wpAny _ _ (call (Value.ref 186) [Value.ref _, Value.str _ _, Value.str _ _, _, Value.int _ _]) _ _ _); k_dflt (refine' gather_ok ?k1_47 ?k2_47 ?k3_47 ?k4_47 ?k5_47 ?k6_47 ?k7_47 ?k8_47 ?k9_47 ?k10_47 ?k11_47 ?k12_47 ?_; (case k1_47 => k_asm); (case k2_47 => k_asm); (case k3_47 => k_asm); (case k4_47 => first | k_asm | exact news_drop1 (by k_asm) | exact news_drop1 (news_drop1 (by k_asm))); (case k5_47 => k_asm); (case k6_47 => first | exact rfl | assumption); (case k7_47 => assumption); (case k8_47 => assumption); (case k9_47 => assumption); (case k10_47 => first | assumption | k_mem); (case k11_47 => assumption); (case k12_47 => k_room); k_whole; intro xG dxG j1G j2G j3G j4G u1G u2G u4G t2G nlG hG tkG fG nG oG1 oG2 oG3 oG4; (try k_sweep); (try dsimp only))))
  k_with "~call builtin:str.find" => ((k_here; (with_reducible show wpAny _ _ (call (Value.builtin "str.find") [Value.str _ _, Value.str _ _, Value.int _ _]) _ _ _); k_dflt (refine find3_ctx (by assumption) ?_)))
  k_with "~exec While BoolOp" => ((k_here; k_dflt (refine whl_start 3 ?_)))
  trivial
set_option maxHeartbeats 8000000 in
theorem mark_ok {sc dsc lf : Addr} {k1 k2 k3 k4 t1 t2 t4 : Tok} {text : Str} {pl e : Nat} {gr : Int} {nl : Nat} {items : Array Value} {c : Nat} {tk1 : Tok}
  (B : Below A₀ base outer h₀) (F : Fr h₀ L s.heap m) (X : (Mine.K1 w.params).In h₀) (N : News h₀ L s.heap ((lf, listOf items nl) :: (dsc, scanD w.params k1 k2 k3 k4 t1 t2 t4 text (pl : Int) lf gr) :: rest)) (T : Top p loose mean mg mb h₀) (hk : cs.kind = .function)
  (hr : ∀ p ∈ rest, p.1 ≠ dsc) (hr2 : ∀ p ∈ rest, p.1 ≠ lf) (hne : @Ne Nat lf dsc) (h1 : (sc, instObj 266 dsc) ∈ rest) (hsz : items.size ≤ 1000)
  (hT : text.length ≤ 1000) (hen : e = pl + 1) (hm1 : ((SL text (pl : Int) ((pl : Int) + 2)).cps.toList == (Str.ofString "--").cps.toList) = false) (hm2 : ((SL text (pl : Int) ((pl : Int) + 2)).cps.toList == (Str.ofString "/*").cps.toList) = false) (hm3 : sgn2 (SL text (pl : Int) ((pl : Int) + 2)) = false) (hm4 : inS (Str.ofString "(),.;+-*/%=<>&|~") c = true)
  (hd : dp + 40 < recursionLimit)
  (hret : ∀ x dx j1 j2 j3 j4 u1 u2 u4 t2' nl' h' tk', Fr h₀ L h' m → News h₀ L h' ((lf, listOf (items.push (.ref x)) nl') :: (dsc, scanD w.params k1 k2 k3 k4 t1 t2' t4 text (e : Int) lf gr) :: (x, instObj 161 dx) :: (dx, wordD w.params j1 j2 j3 j4 u1 u2 u4 (Str.ofString "sign") ⟨#[c]⟩ .none pl) :: rest) → (∀ q ∈ rest, q.1 < dx) → dsc < dx → lf < dx → dx < x → Q .none { s with heap := h', toks := tk' }) :
  wpAny (model prog w) (ktrTop dp un gd cn cs L a ccd cl outer) (call (.ref 256) [.ref sc, .str ⟨#[c]⟩ tk1]) Q E s := by
  unfold SL at hm1 hm2 hm3
  subst hen
  refine wpAny_call ?_
  k_dflt ktr_enter
  k_steps
  exact hret _ _ _ _ _ _ _ _ _ _ _ _ _ (by k_asm) (by k_asm) (by assumption) (by assumption) (by assumption) (by assumption)
set_option maxHeartbeats 8000000 in
theorem bracket_ok {sc dsc lf : Addr} {k1 k2 k3 k4 t1 t2 t4 : Tok} {text : Str} {pl e : Nat} {gr : Int} {nl : Nat} {items : Array Value} {c : Nat} {tk1 : Tok} {f : Nat}
  (B : Below A₀ base outer h₀) (F : Fr h₀ L s.heap m) (X : (Mine.K1 w.params).In h₀) (N : News h₀ L s.heap ((lf, listOf items nl) :: (dsc, scanD w.params k1 k2 k3 k4 t1 t2 t4 text (pl : Int) lf gr) :: rest)) (T : Top p loose mean mg mb h₀) (hk : cs.kind = .function)
  (hr : ∀ p ∈ rest, p.1 ≠ dsc) (hr2 : ∀ p ∈ rest, p.1 ≠ lf) (hne : @Ne Nat lf dsc) (h1 : (sc, instObj 266 dsc) ∈ rest) (hsz : items.size ≤ 1000)
  (hT : text.length ≤ 1000) (hen : e = f + 1) (hq1 : ((⟨#[c]⟩ : Str).cps.toList == (Str.ofString "[").cps.toList) = true) (hf : Txt.find3 text (Str.ofString "]") (pl : Int) = (f : Int))
  (hd : dp + 40 < recursionLimit)
  (hret : ∀ x dx j1 j2 j3 j4 u1 u2 u3 u4 t2' nl' h' tk', Fr h₀ L h' m → News h₀ L h' ((lf, listOf (items.push (.ref x)) nl') :: (dsc, scanD w.params k1 k2 k3 k4 t1 t2' t4 text (e : Int) lf gr) :: (x, instObj 161 dx) :: (dx, wordD w.params j1 j2 j3 j4 u1 u2 u4 (Str.ofString "name") (Str.ofString "") (.str (SL text ((pl : Int) + 1) (f : Int)) u3) pl) :: rest) → (∀ q ∈ rest, q.1 < dx) → dsc < dx → lf < dx → dx < x → Q .none { s with heap := h', toks := tk' }) :
  wpAny (model prog w) (ktrTop dp un gd cn cs L a ccd cl outer) (call (.ref 228) [.ref sc, .str ⟨#[c]⟩ tk1]) Q E s := by
  subst hen
  refine wpAny_call ?_
  k_dflt ktr_enter
  k_steps
  exact hret _ _ _ _ _ _ _ _ _ _ _ _ _ _ (by k_asm) (by k_asm) (by assumption) (by assumption) (by assumption) (by assumption)
end
section
variable {prog : Program} {w : World} {p : Program} {loose : List Str} {mean : ExcName → Option Value} {mg mb : Str → Option Value}
  {dp un : Nat} {gd : Option (List Code)} {cn : Str} {cs : Scope} {a : Addr} {ccd : Value} {cl : List (Str × Addr)} {outer : List Env} {A₀ : Around} {base h₀ : Heap} {L : Addr} {m : Str → Option Value} {s : Shared}
  {Q E : Value → Shared → Prop} {rest : List (Addr × Obj)}
theorem kw_Sm2 : True := by
  w_top off
  k_with_none
  k_with "~k_all" => (first | with_reducible assumption | exact ne_of_allLt (by with_reducible assumption) | assumption | exact ne_of_allLt (by assumption))
  k_with "~memr" => (first | (with_reducible exact List.mem_cons_self ..) | ((with_reducible refine List.mem_cons_of_mem _ ?_); walk_at "memr") | (with_reducible assumption) | ((with_reducible refine List.mem_append_left _ ?_); walk_at "memr") | ((with_reducible refine List.mem_append_right _ ?_); walk_at "memr"))
  k_with "~memd" => (first | exact List.mem_cons_self .. | (refine List.mem_cons_of_mem _ ?_; walk_at "memd") | (refine List.mem_append.mpr (Or.inl ?_); walk_at "memd") | (refine List.mem_append.mpr (Or.inr ?_); walk_at "memd") | assumption)
  k_with "~k_mem" => (first | walk_at "memr" | walk_at "memd")
  k_with "~k_in" => (first | with_reducible assumption | exact Frag.In.keeps (by with_reducible assumption) (Fr.keep (by with_reducible assumption)))
  k_with "~k_room" => (((try simp only [depth_under_make, depth_under_kw, depth_in1, depth_deeper, depth_caller]); (try dsimp only [ktrTop]); first | walk_at "room" | omega))
  k_with "~mul_fits" => (k_dflt (exact mulOk_fmod _ _))
  k_with "~exec Raise some none" => ((k_here; (with_reducible show wpAny _ _ (exec (Stmt.Raise (some (Expr.Call (Expr.Name (Str.ofString "ParseError") _) _ _ _)) none _) _) _ _ _); refine Raise_E rfl ?_))
  k_with "~RaiseBack" => ((k_dflt (refine' RaiseBack.intro ?k1_8 ?k2_8 ?k3_8 ?k4_8 ?k5_8 ?_; (case k1_8 => k_asm); (case k2_8 => k_asm); (case k3_8 => k_asm); (case k4_8 => k_is); (case k5_8 => k_mem))))
  k_with "~call ref" => ((k_here; (with_reducible show wpAny _ _ (call (Value.ref 91) _ _) _ _ _); k_dflt (refine' call_excE ?k1_9 ?k2_9 ?k3_9 ?k4_9 ?k5_9 ?k6_9 ?k7_9 ?k8_9 ?k9_9 ?_; (case k1_9 => k_asm); (case k2_9 => k_asm); (case k3_9 => k_asm); (case k4_9 => k_is); (case k5_9 => k_is); (case k6_9 => k_is); (case k7_9 => k_is); (case k8_9 => k_is); (case k9_9 => size_fits); k_whole; intro e' t' h' F' N' l1 l2 l3; (try k_lt l1); (try k_lt2 l2); (try k_lt l3); (try k_sweep); (try dsimp only); k_enter)))
  k_with "~instx" => (first | (refine' inst_exc ?N_10 ?h1_10 ?h2_10; (case N_10 => with_reducible assumption); (case h1_10 => walk_at "memr"); (case h2_10 => walk_at "memr")) | (refine' inst_exc2 ?N_10 ?h1_10 ?hc_10 ?hd_10 ?hn_10 ?h2_10; (case hc_10 => with_reducible assumption); (case hd_10 => with_reducible assumption); (case hn_10 => with_reducible assumption); (case N_10 => with_reducible assumption); (case h1_10 => walk_at "memr"); (case h2_10 => walk_at "memr")))
  k_with "~instn" => ((refine' InstAt.of_news ?N_11 ?h1_11 ?h2_11; (case N_11 => with_reducible assumption); (case h1_11 => walk_at "memr"); (case h2_11 => walk_at "memr")))
  k_with "~k_inst" => (first | walk_at "instn" | walk_at "instx")
  k_with "~setAttr ref" => ((k_here; k_dflt (first | (refine' setE_new ?k1_13 ?k2_13 ?k3_13 ?k4_13 ?k5_13 ?k6_13 ?k6b_13 ?k7_13 ?k8_13 ?k9_13 ?k10_13 ?_; (case k1_13 => k_asm); (case k2_13 => k_asm); (case k3_13 => k_asm); (case k4_13 => k_all); (case k5_13 => k_is); (case k6_13 => k_is); (case k6b_13 => exact rfl); (case k7_13 => k_is); (case k8_13 => k_is); (case k9_13 => k_put); (case k10_13 => exact Nat.le_of_ble_eq_true rfl); k_whole; intro h' dx' F' N' l1 l2; (try k_lt l1); (try k_lt2 l2); (try k_sweep); (try dsimp only)) | (refine' setE_old ?k1_13 ?k2_13 ?k3_13 ?k4_13 ?k5_13 ?k6_13 ?k7_13 ?k7b_13 ?k8_13 ?k9_13 ?k10_13 ?k11_13 ?k12_13 ?k13_13 ?_; (case k1_13 => k_asm); (case k2_13 => k_asm); (case k3_13 => k_asm); (case k4_13 => walk_at "instx"); (case k5_13 => exact rfl); (case k6_13 => k_is); (case k7_13 => k_is); (case k7b_13 => exact rfl); (case k8_13 => k_is); (case k9_13 => k_is); (case k10_13 => k_get); (case k11_13 => k_put); (case k12_13 => k_upd); (case k13_13 => exact Nat.le_of_ble_eq_true rfl); k_whole; intro h' F' N'; (try k_sweep); (try dsimp only)))))
  k_with "~getAttr ref" => ((k_here; k_dflt (refine' getE ?k1_14 ?k2_14 ?k3_14 ?k4_14 ?k5_14 ?k6_14 ?k7_14 ?k8_14 ?k9_14 ?k10_14 ?_; (case k1_14 => k_asm); (case k2_14 => k_asm); (case k3_14 => walk_at "instx"); (case k4_14 => k_is); (case k5_14 => k_is); (case k6_14 => k_is); (case k7_14 => k_is); (case k8_14 => k_is); (case k9_14 => k_get); (case k10_14 => k_handed); k_whole)))
  k_with "~getAttr ref" => ((k_here; k_dflt (refine' get_own ?k1_15 ?k2_15 ?k3_15 ?k4_15 ?k5_15 ?k6_15 ?k7_15 ?k8_15 ?k9_15 ?_; (case k1_15 => k_asm); (case k2_15 => k_asm); (case k3_15 => walk_at "instn"); (case k4_15 => k_is); (case k5_15 => k_is); (case k6_15 => k_is); (case k7_15 => k_is); (case k8_15 => k_get); (case k9_15 => k_handed); k_whole)))
  k_with "~leaving ref" => ((k_here; k_dflt (first | (refine' leave_raiseD2 ?k1_16 ?k2_16 ?k3_16 ?k4_16 ?_; (case k1_16 => k_asm); (case k2_16 => k_asm); (case k3_16 => k_asm); (case k4_16 => k_all); k_whole; intro h' R' U'; (try dsimp only at R' U' ⊢)) | (refine' leave_onD ?k1_16 ?k2_16 ?k3_16 ?k4_16 ?_; (case k3_16 => k_asm); (case k2_16 => k_asm); (case k1_16 => k_asm); (case k4_16 => k_asm); k_whole; intro h' R' U'; (try dsimp only at R' U' ⊢)))))
  k_with "~subscriptTail Attribute Name Attribute ref int" => ((k_here; (with_reducible show wpAny _ _ (subscriptTail _ _ (Value.ref _) (Value.int _ _)) _ _ _); k_dflt (refine' item_ctx ?k1_17 ?k2_17 ?k3_17 ?k4_17 ?k5_17 ?_ ?k6_17; (case k1_17 => k_asm); (case k2_17 => k_mem); (case k3_17 => omega); (case k4_17 => omega); (case k5_17 => k_asm); (case k6_17 => with_unfolding_all rfl); k_whole)))
  k_with "~compareOp Eq str str" => ((k_here; k_dflt (refine eq_ctx (by k_asm) ?_)))
  k_with "~compareOp NotEq str str" => ((k_here; k_dflt (refine ne_ctx (by k_asm) ?_)))
  k_with "~call type:str" => ((k_here; (with_reducible show wpAny _ _ (call (Value.type "str") [Value.int _ _]) _ _ _); k_dflt (refine PySem.P.str_of_int (log_small (by k_asm) (by k_asm)) ?_)))
  k_with "~compareOp NotIn str ref" => ((k_here; k_dflt (first | refine resv_notin (by k_asm) (by k_asm) (by k_asm) ?_ | refine joinw_notin (by k_asm) (by k_asm) (by k_asm) ?_)))
  k_with "~compareOp In str ref" => ((k_here; k_dflt (refine sgn2_in (by k_asm) (by k_asm) (by k_asm) ?_)))
  k_with "~size_fits" => (exact size1000 (by k_asm))
  k_with "~subscriptTail Attribute Name Attribute str int" => ((k_here; (with_reducible show wpAny _ _ (subscriptTail _ _ (Value.str _ _) (Value.int _ _)) _ _ _); k_dflt (refine item_sctx (by k_asm) (by k_asm) ?_)))
  k_with "~compareOp In str str" => ((k_here; k_dflt (refine in_sctx (by k_asm) ?_)))
  k_with "~call builtin:ord" => ((k_here; (with_reducible show wpAny _ _ (call (Value.builtin "ord") [Value.str ⟨#[_]⟩ _]) _ _ _); refine ord_sctx ?_))
  k_with "~TurnI" => ((k_dflt (refine' TurnI.intro ?k1_27 ?k2_27 ?k3_27 ?k4_27; (case k1_27 => k_asm); (case k2_27 => k_asm); (case k3_27 => exact rfl); (case k4_27 => (intro z hz; simp [hz])))))
  k_with "~call builtin:str.isascii" => ((k_here; refine isascii_ctx (by k_asm) ?_))
  k_with "~subscriptTail Name Name str int" => ((k_here; k_dflt (refine item_sctx (by k_asm) (by k_asm) ?_)))
  k_with "~subscriptTail Attribute Name Slice str ref" => ((walk_at "last subscriptTail"))
  k_with "~storeName" => ((k_here; k_dflt (refine' storeX_L ?F_31 ?N_31 ?_ ?a_31 ?b_31; (case F_31 => k_asm); (case N_31 => k_asm); (case a_31 => rfl); (case b_31 => rfl); k_whole; intro h' F' N'; (try k_sweep); (try dsimp only))))
  k_with "~execs cons" => ((k_here; k_fold))
  k_with "~room" => (first | exact room1 (by with_reducible assumption) (Nat.le_of_ble_eq_true rfl) | exact room0 (by with_reducible assumption) (Nat.le_of_ble_eq_true rfl) | exact room2 (by with_reducible assumption) (Nat.le_of_ble_eq_true rfl))
  k_with "~ltc" => (first | (with_reducible assumption) | (with_reducible exact And.left (by with_reducible assumption)) | (with_reducible exact And.left (And.right (by with_reducible assumption))) | (with_reducible exact And.left (And.right (And.right (by with_reducible assumption)))) | (with_reducible exact And.left (And.right (And.right (And.right (by with_reducible assumption))))) | (with_reducible exact And.left (And.right (And.right (And.right (And.right (by with_reducible assumption)))))) | (with_reducible exact And.left (And.right (And.right (And.right (And.right (And.right (by with_reducible assumption))))))) | (with_reducible exact And.left (And.right (And.right (And.right (And.right (And.right (And.right (by with_reducible assumption)))))))) | (with_reducible exact (And.right (by with_reducible assumption))) | (with_reducible exact (And.right (And.right (by with_reducible assumption)))))
  k_with "~k_ne" => (((refine neN ?_); (try dsimp only); first | (with_reducible exact Nat.ne_of_lt (by walk_at "ltc")) | (with_reducible exact Nat.ne_of_gt (by walk_at "ltc"))))
  k_with "~call ref" => ((k_here; (with_reducible show wpAny _ _ (call (Value.ref 186) [Value.ref _, Value.str _ _, Value.str _ _, _, Value.int _ _]) _ _ _); k_dflt (refine' gather_ok ?k1_47 ?k2_47 ?k3_47 ?k4_47 ?k5_47 ?k6_47 ?k7_47 ?k8_47 ?k9_47 ?k10_47 ?k11_47 ?k12_47 ?_; (case k1_47 => k_asm); (case k2_47 => k_asm); (case k3_47 => k_asm); (case k4_47 => first | k_asm | exact news_drop1 (by k_asm) | exact news_drop1 (news_drop1 (by k_asm))); (case k5_47 => k_asm); (case k6_47 => first | exact rfl | assumption); (case k7_47 => assumption); (case k8_47 => assumption); (case k9_47 => assumption); (case k10_47 => first | assumption | k_mem); (case k11_47 => assumption); (case k12_47 => k_room); k_whole; intro xG dxG j1G j2G j3G j4G u1G u2G u4G t2G nlG hG tkG fG nG oG1 oG2 oG3 oG4; (try k_sweep); (try dsimp only))))
  k_with "~call builtin:str.find" => ((k_here; (with_reducible show wpAny _ _ (call (Value.builtin "str.find") [Value.str _ _, Value.str _ _, Value.int _ _]) _ _ _); k_dflt (refine find3_ctx (by assumption) ?_)))
  k_with "~exec While BoolOp" => ((k_here; k_dflt (refine whl_start 3 ?_)))
  trivial
set_option maxHeartbeats 8000000 in
theorem quo1_ok {sc dsc lf : Addr} {k1 k2 k3 k4 t1 t2 t4 : Tok} {text : Str} {pl e : Nat} {gr : Int} {nl : Nat} {items : Array Value} {c : Nat} {tk1 : Tok} {f : Nat} {b : Bool}
  (B : Below A₀ base outer h₀) (F : Fr h₀ L s.heap m) (X : (Mine.K1 w.params).In h₀) (N : News h₀ L s.heap ((lf, listOf items nl) :: (dsc, scanD w.params k1 k2 k3 k4 t1 t2 t4 text (pl : Int) lf gr) :: rest)) (T : Top p loose mean mg mb h₀) (hk : cs.kind = .function)
  (hr : ∀ p ∈ rest, p.1 ≠ dsc) (hr2 : ∀ p ∈ rest, p.1 ≠ lf) (hne : @Ne Nat lf dsc) (h1 : (sc, instObj 266 dsc) ∈ rest) (hsz : items.size ≤ 1000)
  (hT : text.length ≤ 1000) (hen : e = f + 1) (hq1 : ((⟨#[c]⟩ : Str).cps.toList == (Str.ofString "[").cps.toList) = false) (hq2 : ((⟨#[c]⟩ : Str).cps.toList == (Str.ofString "'").cps.toList) = b) (hf : Txt.find3 text ⟨#[c]⟩ ((pl : Int) + 1) = (f : Int)) (hq3 : ((SL text ((f : Int) + 1) ((f : Int) + 2)).cps.toList == (⟨#[c]⟩ : Str).cps.toList) = false)
  (hd : dp + 40 < recursionLimit)
  (hret : ∀ x dx j1 j2 j3 j4 u1 u2 u3 u4 t2' nl' h' tk', Fr h₀ L h' m → News h₀ L h' ((lf, listOf (items.push (.ref x)) nl') :: (dsc, scanD w.params k1 k2 k3 k4 t1 t2' t4 text (e : Int) lf gr) :: (x, instObj 161 dx) :: (dx, wordD w.params j1 j2 j3 j4 u1 u2 u4 (if b = true then Str.ofString "text" else Str.ofString "name") (Str.ofString "") (.str (SL text ((pl : Int) + 1) (f : Int)) u3) pl) :: rest) → (∀ q ∈ rest, q.1 < dx) → dsc < dx → lf < dx → dx < x → Q .none { s with heap := h', toks := tk' }) :
  wpAny (model prog w) (ktrTop dp un gd cn cs L a ccd cl outer) (call (.ref 228) [.ref sc, .str ⟨#[c]⟩ tk1]) Q E s := by
  unfold SL at hq3
  subst hen
  cases b
  · rw [if_neg Bool.false_ne_true] at hret
    refine wpAny_call ?_
    k_dflt ktr_enter
    k_steps
    exact hret _ _ _ _ _ _ _ _ _ _ _ _ _ _ (by k_asm) (by k_asm) (by assumption) (by assumption) (by assumption) (by assumption)
  · rw [if_pos rfl] at hret
    refine wpAny_call ?_
    k_dflt ktr_enter
    k_steps
    exact hret _ _ _ _ _ _ _ _ _ _ _ _ _ _ (by k_asm) (by k_asm) (by assumption) (by assumption) (by assumption) (by assumption)
end
section
variable {prog : Program} {w : World} {p : Program} {loose : List Str} {mean : ExcName → Option Value} {mg mb : Str → Option Value}
  {dp un : Nat} {gd : Option (List Code)} {cn : Str} {cs : Scope} {a : Addr} {ccd : Value} {cl : List (Str × Addr)} {outer : List Env} {A₀ : Around} {base h₀ : Heap} {L : Addr} {m : Str → Option Value} {s : Shared}
  {Q E : Value → Shared → Prop} {rest : List (Addr × Obj)}
theorem kw_Sm3 : True := by
  w_top off
  k_with_none
  k_with "~k_all" => (first | with_reducible assumption | exact ne_of_allLt (by with_reducible assumption) | assumption | exact ne_of_allLt (by assumption))
  k_with "~memr" => (first | (with_reducible exact List.mem_cons_self ..) | ((with_reducible refine List.mem_cons_of_mem _ ?_); walk_at "memr") | (with_reducible assumption) | ((with_reducible refine List.mem_append_left _ ?_); walk_at "memr") | ((with_reducible refine List.mem_append_right _ ?_); walk_at "memr"))
  k_with "~memd" => (first | exact List.mem_cons_self .. | (refine List.mem_cons_of_mem _ ?_; walk_at "memd") | (refine List.mem_append.mpr (Or.inl ?_); walk_at "memd") | (refine List.mem_append.mpr (Or.inr ?_); walk_at "memd") | assumption)
  k_with "~k_mem" => (first | walk_at "memr" | walk_at "memd")
  k_with "~k_in" => (first | with_reducible assumption | exact Frag.In.keeps (by with_reducible assumption) (Fr.keep (by with_reducible assumption)))
  k_with "~k_room" => (((try simp only [depth_under_make, depth_under_kw, depth_in1, depth_deeper, depth_caller]); (try dsimp only [ktrTop]); first | walk_at "room" | omega))
  k_with "~mul_fits" => (k_dflt (exact mulOk_fmod _ _))
  k_with "~exec Raise some none" => ((k_here; (with_reducible show wpAny _ _ (exec (Stmt.Raise (some (Expr.Call (Expr.Name (Str.ofString "ParseError") _) _ _ _)) none _) _) _ _ _); refine Raise_E rfl ?_))
  k_with "~RaiseBack" => ((k_dflt (refine' RaiseBack.intro ?k1_8 ?k2_8 ?k3_8 ?k4_8 ?k5_8 ?_; (case k1_8 => k_asm); (case k2_8 => k_asm); (case k3_8 => k_asm); (case k4_8 => k_is); (case k5_8 => k_mem))))
  k_with "~call ref" => ((k_here; (with_reducible show wpAny _ _ (call (Value.ref 91) _ _) _ _ _); k_dflt (refine' call_excE ?k1_9 ?k2_9 ?k3_9 ?k4_9 ?k5_9 ?k6_9 ?k7_9 ?k8_9 ?k9_9 ?_; (case k1_9 => k_asm); (case k2_9 => k_asm); (case k3_9 => k_asm); (case k4_9 => k_is); (case k5_9 => k_is); (case k6_9 => k_is); (case k7_9 => k_is); (case k8_9 => k_is); (case k9_9 => size_fits); k_whole; intro e' t' h' F' N' l1 l2 l3; (try k_lt l1); (try k_lt2 l2); (try k_lt l3); (try k_sweep); (try dsimp only); k_enter)))
  k_with "~instx" => (first | (refine' inst_exc ?N_10 ?h1_10 ?h2_10; (case N_10 => with_reducible assumption); (case h1_10 => walk_at "memr"); (case h2_10 => walk_at "memr")) | (refine' inst_exc2 ?N_10 ?h1_10 ?hc_10 ?hd_10 ?hn_10 ?h2_10; (case hc_10 => with_reducible assumption); (case hd_10 => with_reducible assumption); (case hn_10 => with_reducible assumption); (case N_10 => with_reducible assumption); (case h1_10 => walk_at "memr"); (case h2_10 => walk_at "memr")))
  k_with "~instn" => ((refine' InstAt.of_news ?N_11 ?h1_11 ?h2_11; (case N_11 => with_reducible assumption); (case h1_11 => walk_at "memr"); (case h2_11 => walk_at "memr")))
  k_with "~k_inst" => (first | walk_at "instn" | walk_at "instx")
  k_with "~setAttr ref" => ((k_here; k_dflt (first | (refine' setE_new ?k1_13 ?k2_13 ?k3_13 ?k4_13 ?k5_13 ?k6_13 ?k6b_13 ?k7_13 ?k8_13 ?k9_13 ?k10_13 ?_; (case k1_13 => k_asm); (case k2_13 => k_asm); (case k3_13 => k_asm); (case k4_13 => k_all); (case k5_13 => k_is); (case k6_13 => k_is); (case k6b_13 => exact rfl); (case k7_13 => k_is); (case k8_13 => k_is); (case k9_13 => k_put); (case k10_13 => exact Nat.le_of_ble_eq_true rfl); k_whole; intro h' dx' F' N' l1 l2; (try k_lt l1); (try k_lt2 l2); (try k_sweep); (try dsimp only)) | (refine' setE_old ?k1_13 ?k2_13 ?k3_13 ?k4_13 ?k5_13 ?k6_13 ?k7_13 ?k7b_13 ?k8_13 ?k9_13 ?k10_13 ?k11_13 ?k12_13 ?k13_13 ?_; (case k1_13 => k_asm); (case k2_13 => k_asm); (case k3_13 => k_asm); (case k4_13 => walk_at "instx"); (case k5_13 => exact rfl); (case k6_13 => k_is); (case k7_13 => k_is); (case k7b_13 => exact rfl); (case k8_13 => k_is); (case k9_13 => k_is); (case k10_13 => k_get); (case k11_13 => k_put); (case k12_13 => k_upd); (case k13_13 => exact Nat.le_of_ble_eq_true rfl); k_whole; intro h' F' N'; (try k_sweep); (try dsimp only)))))
  k_with "~getAttr ref" => ((k_here; k_dflt (refine' getE ?k1_14 ?k2_14 ?k3_14 ?k4_14 ?k5_14 ?k6_14 ?k7_14 ?k8_14 ?k9_14 ?k10_14 ?_; (case k1_14 => k_asm); (case k2_14 => k_asm); (case k3_14 => walk_at "instx"); (case k4_14 => k_is); (case k5_14 => k_is); (case k6_14 => k_is); (case k7_14 => k_is); (case k8_14 => k_is); (case k9_14 => k_get); (case k10_14 => k_handed); k_whole)))
  k_with "~getAttr ref" => ((k_here; k_dflt (refine' get_own ?k1_15 ?k2_15 ?k3_15 ?k4_15 ?k5_15 ?k6_15 ?k7_15 ?k8_15 ?k9_15 ?_; (case k1_15 => k_asm); (case k2_15 => k_asm); (case k3_15 => walk_at "instn"); (case k4_15 => k_is); (case k5_15 => k_is); (case k6_15 => k_is); (case k7_15 => k_is); (case k8_15 => k_get); (case k9_15 => k_handed); k_whole)))
  k_with "~leaving ref" => ((k_here; k_dflt (first | (refine' leave_raiseD2 ?k1_16 ?k2_16 ?k3_16 ?k4_16 ?_; (case k1_16 => k_asm); (case k2_16 => k_asm); (case k3_16 => k_asm); (case k4_16 => k_all); k_whole; intro h' R' U'; (try dsimp only at R' U' ⊢)) | (refine' leave_onD ?k1_16 ?k2_16 ?k3_16 ?k4_16 ?_; (case k3_16 => k_asm); (case k2_16 => k_asm); (case k1_16 => k_asm); (case k4_16 => k_asm); k_whole; intro h' R' U'; (try dsimp only at R' U' ⊢)))))
  k_with "~subscriptTail Attribute Name Attribute ref int" => ((k_here; (with_reducible show wpAny _ _ (subscriptTail _ _ (Value.ref _) (Value.int _ _)) _ _ _); k_dflt (refine' item_ctx ?k1_17 ?k2_17 ?k3_17 ?k4_17 ?k5_17 ?_ ?k6_17; (case k1_17 => k_asm); (case k2_17 => k_mem); (case k3_17 => omega); (case k4_17 => omega); (case k5_17 => k_asm); (case k6_17 => with_unfolding_all rfl); k_whole)))
  k_with "~compareOp Eq str str" => ((k_here; k_dflt (refine eq_ctx (by k_asm) ?_)))
  k_with "~compareOp NotEq str str" => ((k_here; k_dflt (refine ne_ctx (by k_asm) ?_)))
  k_with "~call type:str" => ((k_here; (with_reducible show wpAny _ _ (call (Value.type "str") [Value.int _ _]) _ _ _); k_dflt (refine PySem.P.str_of_int (log_small (by k_asm) (by k_asm)) ?_)))
  k_with "~compareOp NotIn str ref" => ((k_here; k_dflt (first | refine resv_notin (by k_asm) (by k_asm) (by k_asm) ?_ | refine joinw_notin (by k_asm) (by k_asm) (by k_asm) ?_)))
  k_with "~compareOp In str ref" => ((k_here; k_dflt (refine sgn2_in (by k_asm) (by k_asm) (by k_asm) ?_)))
  k_with "~size_fits" => (exact size1000 (by k_asm))
  k_with "~subscriptTail Attribute Name Attribute str int" => ((k_here; (with_reducible show wpAny _ _ (subscriptTail _ _ (Value.str _ _) (Value.int _ _)) _ _ _); k_dflt (refine item_sctx (by k_asm) (by k_asm) ?_)))
  k_with "~compareOp In str str" => ((k_here; k_dflt (refine in_sctx (by k_asm) ?_)))
  k_with "~call builtin:ord" => ((k_here; (with_reducible show wpAny _ _ (call (Value.builtin "ord") [Value.str ⟨#[_]⟩ _]) _ _ _); refine ord_sctx ?_))
  k_with "~TurnI" => ((k_dflt (refine' TurnI.intro ?k1_27 ?k2_27 ?k3_27 ?k4_27; (case k1_27 => k_asm); (case k2_27 => k_asm); (case k3_27 => exact rfl); (case k4_27 => (intro z hz; simp [hz])))))
  k_with "~call builtin:str.isascii" => ((k_here; refine isascii_ctx (by k_asm) ?_))
  k_with "~subscriptTail Name Name str int" => ((k_here; k_dflt (refine item_sctx (by k_asm) (by k_asm) ?_)))
  k_with "~subscriptTail Attribute Name Slice str ref" => ((walk_at "last subscriptTail"))
  k_with "~storeName" => ((k_here; k_dflt (refine' storeX_L ?F_31 ?N_31 ?_ ?a_31 ?b_31; (case F_31 => k_asm); (case N_31 => k_asm); (case a_31 => rfl); (case b_31 => rfl); k_whole; intro h' F' N'; (try k_sweep); (try dsimp only))))
  k_with "~execs cons" => ((k_here; k_fold))
  k_with "~room" => (first | exact room1 (by with_reducible assumption) (Nat.le_of_ble_eq_true rfl) | exact room0 (by with_reducible assumption) (Nat.le_of_ble_eq_true rfl) | exact room2 (by with_reducible assumption) (Nat.le_of_ble_eq_true rfl))
  k_with "~ltc" => (first | (with_reducible assumption) | (with_reducible exact And.left (by with_reducible assumption)) | (with_reducible exact And.left (And.right (by with_reducible assumption))) | (with_reducible exact And.left (And.right (And.right (by with_reducible assumption)))) | (with_reducible exact And.left (And.right (And.right (And.right (by with_reducible assumption))))) | (with_reducible exact And.left (And.right (And.right (And.right (And.right (by with_reducible assumption)))))) | (with_reducible exact And.left (And.right (And.right (And.right (And.right (And.right (by with_reducible assumption))))))) | (with_reducible exact And.left (And.right (And.right (And.right (And.right (And.right (And.right (by with_reducible assumption)))))))) | (with_reducible exact (And.right (by with_reducible assumption))) | (with_reducible exact (And.right (And.right (by with_reducible assumption)))))
  k_with "~k_ne" => (((refine neN ?_); (try dsimp only); first | (with_reducible exact Nat.ne_of_lt (by walk_at "ltc")) | (with_reducible exact Nat.ne_of_gt (by walk_at "ltc"))))
  k_with "~call ref" => ((k_here; (with_reducible show wpAny _ _ (call (Value.ref 186) [Value.ref _, Value.str _ _, Value.str _ _, _, Value.int _ _]) _ _ _); k_dflt (refine' gather_ok ?k1_47 ?k2_47 ?k3_47 ?k4_47 ?k5_47 ?k6_47 ?k7_47 ?k8_47 ?k9_47 ?k10_47 ?k11_47 ?k12_47 ?_; (case k1_47 => k_asm); (case k2_47 => k_asm); (case k3_47 => k_asm); (case k4_47 => first | k_asm | exact news_drop1 (by k_asm) | exact news_drop1 (news_drop1 (by k_asm))); (case k5_47 => k_asm); (case k6_47 => first | exact rfl | assumption); (case k7_47 => assumption); (case k8_47 => assumption); (case k9_47 => assumption); (case k10_47 => first | assumption | k_mem); (case k11_47 => assumption); (case k12_47 => k_room); k_whole; intro xG dxG j1G j2G j3G j4G u1G u2G u4G t2G nlG hG tkG fG nG oG1 oG2 oG3 oG4; (try k_sweep); (try dsimp only))))
  k_with "~call builtin:str.find" => ((k_here; (with_reducible show wpAny _ _ (call (Value.builtin "str.find") [Value.str _ _, Value.str _ _, Value.int _ _]) _ _ _); k_dflt (refine find3_ctx (by assumption) ?_)))
  k_with "~exec While BoolOp" => ((k_here; k_dflt (refine whl_start 3 ?_)))
  trivial
set_option maxHeartbeats 8000000 in
theorem quo2_ok {sc dsc lf : Addr} {k1 k2 k3 k4 t1 t2 t4 : Tok} {text : Str} {pl e : Nat} {gr : Int} {nl : Nat} {items : Array Value} {c : Nat} {tk1 : Tok} {f g : Nat}
  (B : Below A₀ base outer h₀) (F : Fr h₀ L s.heap m) (X : (Mine.K1 w.params).In h₀) (N : News h₀ L s.heap ((lf, listOf items nl) :: (dsc, scanD w.params k1 k2 k3 k4 t1 t2 t4 text (pl : Int) lf gr) :: rest)) (T : Top p loose mean mg mb h₀) (hk : cs.kind = .function)
  (hr : ∀ p ∈ rest, p.1 ≠ dsc) (hr2 : ∀ p ∈ rest, p.1 ≠ lf) (hne : @Ne Nat lf dsc) (h1 : (sc, instObj 266 dsc) ∈ rest) (hsz : items.size ≤ 1000)
  (hT : text.length ≤ 1000) (hen : e = g + 1) (hq1 : ((⟨#[c]⟩ : Str).cps.toList == (Str.ofString "[").cps.toList) = false) (hq2 : ((⟨#[c]⟩ : Str).cps.toList == (Str.ofString "'").cps.toList) = false) (hf : Txt.find3 text ⟨#[c]⟩ ((pl : Int) + 1) = (f : Int)) (hq3 : ((SL text ((f : Int) + 1) ((f : Int) + 2)).cps.toList == (⟨#[c]⟩ : Str).cps.toList) = true) (hg : Txt.find3 text ⟨#[c]⟩ ((f : Int) + 2) = (g : Int)) (hq4 : ((SL text ((g : Int) + 1) ((g : Int) + 2)).cps.toList == (⟨#[c]⟩ : Str).cps.toList) = false)
  (hd : dp + 40 < recursionLimit)
  (hret : ∀ x dx j1 j2 j3 j4 u1 u2 u3 u4 t2' nl' h' tk', Fr h₀ L h' m → News h₀ L h' ((lf, listOf (items.push (.ref x)) nl') :: (dsc, scanD w.params k1 k2 k3 k4 t1 t2' t4 text (e : Int) lf gr) :: (x, instObj 161 dx) :: (dx, wordD w.params j1 j2 j3 j4 u1 u2 u4 (Str.ofString "name") (Str.ofString "") (.str (Txt.join (Str.ofString "") [SL text ((pl : Int) + 1) ((f : Int) + 1), SL text ((f : Int) + 2) (g : Int)]) u3) pl) :: rest) → (∀ q ∈ rest, q.1 < dx) → dsc < dx → lf < dx → dx < x → Q .none { s with heap := h', toks := tk' }) :
  wpAny (model prog w) (ktrTop dp un gd cn cs L a ccd cl outer) (call (.ref 228) [.ref sc, .str ⟨#[c]⟩ tk1]) Q E s := by
  unfold SL at hq3 hq4
  subst hen
  refine wpAny_call ?_
  k_dflt ktr_enter
  k_steps
  exact hret _ _ _ _ _ _ _ _ _ _ _ _ _ _ (by k_asm) (by k_asm) (by assumption) (by assumption) (by assumption) (by assumption)
end
section
variable {prog : Program} {w : World} {p : Program} {loose : List Str} {mean : ExcName → Option Value} {mg mb : Str → Option Value}
  {dp un : Nat} {gd : Option (List Code)} {cn : Str} {cs : Scope} {a : Addr} {ccd : Value} {cl : List (Str × Addr)} {outer : List Env} {A₀ : Around} {base h₀ : Heap} {L : Addr} {m : Str → Option Value} {s : Shared}
  {Q E : Value → Shared → Prop} {rest : List (Addr × Obj)}
theorem kw_Sm4 : True := by
  w_top off
  k_with_none
  k_with "~k_all" => (first | with_reducible assumption | exact ne_of_allLt (by with_reducible assumption) | assumption | exact ne_of_allLt (by assumption))
  k_with "~memr" => (first | (with_reducible exact List.mem_cons_self ..) | ((with_reducible refine List.mem_cons_of_mem _ ?_); walk_at "memr") | (with_reducible assumption) | ((with_reducible refine List.mem_append_left _ ?_); walk_at "memr") | ((with_reducible refine List.mem_append_right _ ?_); walk_at "memr"))
  k_with "~memd" => (first | exact List.mem_cons_self .. | (refine List.mem_cons_of_mem _ ?_; walk_at "memd") | (refine List.mem_append.mpr (Or.inl ?_); walk_at "memd") | (refine List.mem_append.mpr (Or.inr ?_); walk_at "memd") | assumption)
  k_with "~k_mem" => (first | walk_at "memr" | walk_at "memd")
  k_with "~k_in" => (first | with_reducible assumption | exact Frag.In.keeps (by with_reducible assumption) (Fr.keep (by with_reducible assumption)))
  k_with "~k_room" => (((try simp only [depth_under_make, depth_under_kw, depth_in1, depth_deeper, depth_caller]); (try dsimp only [ktrTop]); first | walk_at "room" | omega))
  k_with "~mul_fits" => (k_dflt (exact mulOk_fmod _ _))
  k_with "~exec Raise some none" => ((k_here; (with_reducible show wpAny _ _ (exec (Stmt.Raise (some (Expr.Call (Expr.Name (Str.ofString "ParseError") _) _ _ _)) none _) _) _ _ _); refine Raise_E rfl ?_))
  k_with "~RaiseBack" => ((k_dflt (refine' RaiseBack.intro ?k1_8 ?k2_8 ?k3_8 ?k4_8 ?k5_8 ?_; (case k1_8 => k_asm); (case k2_8 => k_asm); (case k3_8 => k_asm); (case k4_8 => k_is); (case k5_8 => k_mem))))
  k_with "~call ref" => ((k_here; (with_reducible show wpAny _ _ (call (Value.ref 91) _ _) _ _ _); k_dflt (refine' call_excE ?k1_9 ?k2_9 ?k3_9 ?k4_9 ?k5_9 ?k6_9 ?k7_9 ?k8_9 ?k9_9 ?_; (case k1_9 => k_asm); (case k2_9 => k_asm); (case k3_9 => k_asm); (case k4_9 => k_is); (case k5_9 => k_is); (case k6_9 => k_is); (case k7_9 => k_is); (case k8_9 => k_is); (case k9_9 => size_fits); k_whole; intro e' t' h' F' N' l1 l2 l3; (try k_lt l1); (try k_lt2 l2); (try k_lt l3); (try k_sweep); (try dsimp only); k_enter)))
  k_with "~instx" => (first | (refine' inst_exc ?N_10 ?h1_10 ?h2_10; (case N_10 => with_reducible assumption); (case h1_10 => walk_at "memr"); (case h2_10 => walk_at "memr")) | (refine' inst_exc2 ?N_10 ?h1_10 ?hc_10 ?hd_10 ?hn_10 ?h2_10; (case hc_10 => with_reducible assumption); (case hd_10 => with_reducible assumption); (case hn_10 => with_reducible assumption); (case N_10 => with_reducible assumption); (case h1_10 => walk_at "memr"); (case h2_10 => walk_at "memr")))
  k_with "~instn" => ((refine' InstAt.of_news ?N_11 ?h1_11 ?h2_11; (case N_11 => with_reducible assumption); (case h1_11 => walk_at "memr"); (case h2_11 => walk_at "memr")))
  k_with "~k_inst" => (first | walk_at "instn" | walk_at "instx")
  k_with "~setAttr ref" => ((k_here; k_dflt (first | (refine' setE_new ?k1_13 ?k2_13 ?k3_13 ?k4_13 ?k5_13 ?k6_13 ?k6b_13 ?k7_13 ?k8_13 ?k9_13 ?k10_13 ?_; (case k1_13 => k_asm); (case k2_13 => k_asm); (case k3_13 => k_asm); (case k4_13 => k_all); (case k5_13 => k_is); (case k6_13 => k_is); (case k6b_13 => exact rfl); (case k7_13 => k_is); (case k8_13 => k_is); (case k9_13 => k_put); (case k10_13 => exact Nat.le_of_ble_eq_true rfl); k_whole; intro h' dx' F' N' l1 l2; (try k_lt l1); (try k_lt2 l2); (try k_sweep); (try dsimp only)) | (refine' setE_old ?k1_13 ?k2_13 ?k3_13 ?k4_13 ?k5_13 ?k6_13 ?k7_13 ?k7b_13 ?k8_13 ?k9_13 ?k10_13 ?k11_13 ?k12_13 ?k13_13 ?_; (case k1_13 => k_asm); (case k2_13 => k_asm); (case k3_13 => k_asm); (case k4_13 => walk_at "instx"); (case k5_13 => exact rfl); (case k6_13 => k_is); (case k7_13 => k_is); (case k7b_13 => exact rfl); (case k8_13 => k_is); (case k9_13 => k_is); (case k10_13 => k_get); (case k11_13 => k_put); (case k12_13 => k_upd); (case k13_13 => exact Nat.le_of_ble_eq_true rfl); k_whole; intro h' F' N'; (try k_sweep); (try dsimp only)))))
  k_with "~getAttr ref" => ((k_here; k_dflt (refine' getE ?k1_14 ?k2_14 ?k3_14 ?k4_14 ?k5_14 ?k6_14 ?k7_14 ?k8_14 ?k9_14 ?k10_14 ?_; (case k1_14 => k_asm); (case k2_14 => k_asm); (case k3_14 => walk_at "instx"); (case k4_14 => k_is); (case k5_14 => k_is); (case k6_14 => k_is); (case k7_14 => k_is); (case k8_14 => k_is); (case k9_14 => k_get); (case k10_14 => k_handed); k_whole)))
  k_with "~getAttr ref" => ((k_here; k_dflt (refine' get_own ?k1_15 ?k2_15 ?k3_15 ?k4_15 ?k5_15 ?k6_15 ?k7_15 ?k8_15 ?k9_15 ?_; (case k1_15 => k_asm); (case k2_15 => k_asm); (case k3_15 => walk_at "instn"); (case k4_15 => k_is); (case k5_15 => k_is); (case k6_15 => k_is); (case k7_15 => k_is); (case k8_15 => k_get); (case k9_15 => k_handed); k_whole)))
  k_with "~leaving ref" => ((k_here; k_dflt (first | (refine' leave_raiseD2 ?k1_16 ?k2_16 ?k3_16 ?k4_16 ?_; (case k1_16 => k_asm); (case k2_16 => k_asm); (case k3_16 => k_asm); (case k4_16 => k_all); k_whole; intro h' R' U'; (try dsimp only at R' U' ⊢)) | (refine' leave_onD ?k1_16 ?k2_16 ?k3_16 ?k4_16 ?_; (case k3_16 => k_asm); (case k2_16 => k_asm); (case k1_16 => k_asm); (case k4_16 => k_asm); k_whole; intro h' R' U'; (try dsimp only at R' U' ⊢)))))
  k_with "~subscriptTail Attribute Name Attribute ref int" => ((k_here; (with_reducible show wpAny _ _ (subscriptTail _ _ (Value.ref _) (Value.int _ _)) _ _ _); k_dflt (refine' item_ctx ?k1_17 ?k2_17 ?k3_17 ?k4_17 ?k5_17 ?_ ?k6_17; (case k1_17 => k_asm); (case k2_17 => k_mem); (case k3_17 => omega); (case k4_17 => omega); (case k5_17 => k_asm); (case k6_17 => with_unfolding_all rfl); k_whole)))
  k_with "~compareOp Eq str str" => ((k_here; k_dflt (refine eq_ctx (by k_asm) ?_)))
  k_with "~compareOp NotEq str str" => ((k_here; k_dflt (refine ne_ctx (by k_asm) ?_)))
  k_with "~call type:str" => ((k_here; (with_reducible show wpAny _ _ (call (Value.type "str") [Value.int _ _]) _ _ _); k_dflt (refine PySem.P.str_of_int (log_small (by k_asm) (by k_asm)) ?_)))
  k_with "~compareOp NotIn str ref" => ((k_here; k_dflt (first | refine resv_notin (by k_asm) (by k_asm) (by k_asm) ?_ | refine joinw_notin (by k_asm) (by k_asm) (by k_asm) ?_)))
  k_with "~compareOp In str ref" => ((k_here; k_dflt (refine sgn2_in (by k_asm) (by k_asm) (by k_asm) ?_)))
  k_with "~size_fits" => (exact size1000 (by k_asm))
  k_with "~subscriptTail Attribute Name Attribute str int" => ((k_here; (with_reducible show wpAny _ _ (subscriptTail _ _ (Value.str _ _) (Value.int _ _)) _ _ _); k_dflt (refine item_sctx (by k_asm) (by k_asm) ?_)))
  k_with "~compareOp In str str" => ((k_here; k_dflt (refine in_sctx (by k_asm) ?_)))
  k_with "~call builtin:ord" => ((k_here; (with_reducible show wpAny _ _ (call (Value.builtin "ord") [Value.str ⟨#[_]⟩ _]) _ _ _); refine ord_sctx ?_))
  k_with "~TurnI" => ((k_dflt (refine' TurnI.intro ?k1_27 ?k2_27 ?k3_27 ?k4_27; (case k1_27 => k_asm); (case k2_27 => k_asm); (case k3_27 => exact rfl); (case k4_27 => (intro z hz; simp [hz])))))
  k_with "~call builtin:str.isascii" => ((k_here; refine isascii_ctx (by k_asm) ?_))
  k_with "~subscriptTail Name Name str int" => ((k_here; k_dflt (refine item_sctx (by k_asm) (by k_asm) ?_)))
  k_with "~subscriptTail Attribute Name Slice str ref" => ((walk_at "last subscriptTail"))
  k_with "~storeName" => ((k_here; k_dflt (refine' storeX_L ?F_31 ?N_31 ?_ ?a_31 ?b_31; (case F_31 => k_asm); (case N_31 => k_asm); (case a_31 => rfl); (case b_31 => rfl); k_whole; intro h' F' N'; (try k_sweep); (try dsimp only))))
  k_with "~execs cons" => ((k_here; k_fold))
  k_with "~room" => (first | exact room1 (by with_reducible assumption) (Nat.le_of_ble_eq_true rfl) | exact room0 (by with_reducible assumption) (Nat.le_of_ble_eq_true rfl) | exact room2 (by with_reducible assumption) (Nat.le_of_ble_eq_true rfl))
  k_with "~ltc" => (first | (with_reducible assumption) | (with_reducible exact And.left (by with_reducible assumption)) | (with_reducible exact And.left (And.right (by with_reducible assumption))) | (with_reducible exact And.left (And.right (And.right (by with_reducible assumption)))) | (with_reducible exact And.left (And.right (And.right (And.right (by with_reducible assumption))))) | (with_reducible exact And.left (And.right (And.right (And.right (And.right (by with_reducible assumption)))))) | (with_reducible exact And.left (And.right (And.right (And.right (And.right (And.right (by with_reducible assumption))))))) | (with_reducible exact And.left (And.right (And.right (And.right (And.right (And.right (And.right (by with_reducible assumption)))))))) | (with_reducible exact (And.right (by with_reducible assumption))) | (with_reducible exact (And.right (And.right (by with_reducible assumption)))))
  k_with "~k_ne" => (((refine neN ?_); (try dsimp only); first | (with_reducible exact Nat.ne_of_lt (by walk_at "ltc")) | (with_reducible exact Nat.ne_of_gt (by walk_at "ltc"))))
  k_with "~exec While BoolOp" => ((k_here; (rename RunS _ _ _ _ => rsX); (rename StopS _ _ _ => rsY); k_dflt (refine' while_int (y := Str.ofString "end") (And.left rsX) ?h1_45 ?h2_45 ?h3_45 ?h3b_45 ?h4_45 ?h5_45 ?h6_45; (case h1_45 => k_asm); (case h2_45 => k_asm); (case h3_45 => exact rfl); (case h3b_45 => exact rfl); (case' h4_45 => (intro kT tT hT' tkT hT1 hT2 fT nT; obtain ⟨cT, hcT, hiT⟩ := And.right rsX kT hT1 hT2; have hlT := len_of_at hcT; (try k_fold))); (case' h5_45 => (intro tT hT' tkT fT nT; rcases rsY with rfl | ⟨cT, hcT, hiT, hcL, hlT⟩; all_goals (try k_fold))); (case' h6_45 => (intro tT hT' tkT fT nT; (try k_fold))))))
  k_with "~call ref" => ((k_here; (with_reducible show wpAny _ _ (call (Value.ref 102) [Value.str _ _]) _ _ _); k_dflt (refine' folded_ok ?k1_46 ?k2_46 ?k3_46 ?k4_46 ?k5_46 ?k6_46 ?k7_46 ?k8_46 ?k9_46 ?_; (case k1_46 => k_asm); (case k2_46 => k_asm); (case k3_46 => k_asm); (case k4_46 => k_asm); (case k5_46 => k_asm); (case k6_46 => first | exact rfl | assumption); (case k7_46 => exact Nat.le_trans (Txt.length_slice_le _ _ _) (by assumption)); (case k8_46 => assumption); (case k9_46 => k_room); k_whole; intro tF' hF' tkF' fF' nF'; (try k_sweep); (try dsimp only))))
  k_with "~call ref" => ((k_here; (with_reducible show wpAny _ _ (call (Value.ref 186) [Value.ref _, Value.str _ _, Value.str _ _, _, Value.int _ _]) _ _ _); k_dflt (refine' gather_ok ?k1_47 ?k2_47 ?k3_47 ?k4_47 ?k5_47 ?k6_47 ?k7_47 ?k8_47 ?k9_47 ?k10_47 ?k11_47 ?k12_47 ?_; (case k1_47 => k_asm); (case k2_47 => k_asm); (case k3_47 => k_asm); (case k4_47 => first | k_asm | exact news_drop1 (by k_asm) | exact news_drop1 (news_drop1 (by k_asm))); (case k5_47 => k_asm); (case k6_47 => first | exact rfl | assumption); (case k7_47 => assumption); (case k8_47 => assumption); (case k9_47 => assumption); (case k10_47 => first | assumption | k_mem); (case k11_47 => assumption); (case k12_47 => k_room); k_whole; intro xG dxG j1G j2G j3G j4G u1G u2G u4G t2G nlG hG tkG fG nG oG1 oG2 oG3 oG4; (try k_sweep); (try dsimp only))))
  trivial
set_option maxHeartbeats 8000000 in
theorem barex_ok {sc dsc lf : Addr} {k1 k2 k3 k4 t1 t2 t4 : Tok} {text : Str} {pl e : Nat} {gr : Int} {nl : Nat} {items : Array Value} {c : Nat} {tk1 : Tok}
  (B : Below A₀ base outer h₀) (F : Fr h₀ L s.heap m) (X : (Mine.K1 w.params).In h₀) (N : News h₀ L s.heap ((lf, listOf items nl) :: (dsc, scanD w.params k1 k2 k3 k4 t1 t2 t4 text (pl : Int) lf gr) :: rest)) (T : Top p loose mean mg mb h₀) (hk : cs.kind = .function)
  (hr : ∀ p ∈ rest, p.1 ≠ dsc) (hr2 : ∀ p ∈ rest, p.1 ≠ lf) (hne : @Ne Nat lf dsc) (h1 : (sc, instObj 266 dsc) ∈ rest) (hsz : items.size ≤ 1000)
  (hT : text.length ≤ 1000) (hR : RunS NAMES text (pl + 1) e) (hS : StopS NAMES text e) (hnx : inS (Str.ofString "xX") c = true) (hx2 : ((SL text ((pl : Int) + 1) ((pl : Int) + 1 + 1)).cps.toList == (Str.ofString "'").cps.toList) = false) (hasc : Txt.isascii (Txt.slice text (some (pl : Int)) (some (e : Int))) = true)
  (hd : dp + 40 < recursionLimit)
  (hret : ∀ x dx j1 j2 j3 j4 u1 u2 u3 u4 t2' nl' h' tk', Fr h₀ L h' m → News h₀ L h' ((lf, listOf (items.push (.ref x)) nl') :: (dsc, scanD w.params k1 k2 k3 k4 t1 t2' t4 text (e : Int) lf gr) :: (x, instObj 161 dx) :: (dx, wordD w.params j1 j2 j3 j4 u1 u2 u4 (Str.ofString "name") (Txt.upper (Txt.slice text (some (pl : Int)) (some (e : Int)))) (.str (Txt.slice text (some (pl : Int)) (some (e : Int))) u3) pl) :: rest) → (∀ q ∈ rest, q.1 < dx) → dsc < dx → lf < dx → dx < x → Q .none { s with heap := h', toks := tk' }) :
  wpAny (model prog w) (ktrTop dp un gd cn cs L a ccd cl outer) (call (.ref 214) [.ref sc, .str ⟨#[c]⟩ tk1]) Q E s := by
  unfold SL at hx2
  refine wpAny_call ?_
  k_dflt ktr_enter
  k_steps
  exact hret _ _ _ _ _ _ _ _ _ _ _ _ _ _ (by k_asm) (by k_asm) (by assumption) (by assumption) (by assumption) (by assumption)
end
section
open PySem PySem.W PySem.Calls PyProof.Rows
noncomputable abbrev BLANKS : Str := Str.ofString " \t\n\r\x0c"
noncomputable abbrev LETTERS : Str := Str.ofString "abcdefghijklmnopqrstuvwxyzABCDEFGHIJKLMNOPQRSTUVWXYZ_"
noncomputable abbrev FIGURES : Str := Str.ofString "0123456789"
noncomputable abbrev HEXF : Str := Str.ofString "0123456789abcdefABCDEF"
noncomputable abbrev ONES : Str := Str.ofString "(),.;+-*/%=<>&|~"
noncomputable abbrev QUOT : Str := Str.ofString "'\"`["
noncomputable abbrev eqS (x y : Str) (b : Bool) : Prop := (x.cps.toList == y.cps.toList) = b
/-- one turn of the scanner at p: the word it gathers, if any, and where it goes on -/
inductive Tok1 (T : Str) (p : Nat) : Option PW → Nat → Prop
  | blank {c : Nat} : T.cps[p]? = some c → inS BLANKS c = true → Tok1 T p none (p + 1)
  | bare {c e : Nat} : T.cps[p]? = some c → inS BLANKS c = false → inS LETTERS c = true → RunS NAMES T (p + 1) e → StopS NAMES T e → inS (Str.ofString "xX") c = false → Txt.isascii (SL T p e) = true →
      Tok1 T p (some ⟨Str.ofString "name", Txt.upper (SL T p e), .str (SL T p e), p⟩) e
  | barex {c e : Nat} : T.cps[p]? = some c → inS BLANKS c = false → inS LETTERS c = true → RunS NAMES T (p + 1) e → StopS NAMES T e → inS (Str.ofString "xX") c = true → eqS (SL T ((p : Int) + 1) ((p : Int) + 1 + 1)) (Str.ofString "'") false → Txt.isascii (SL T p e) = true →
      Tok1 T p (some ⟨Str.ofString "name", Txt.upper (SL T p e), .str (SL T p e), p⟩) e
  | num10 {c e : Nat} {n : Int} : T.cps[p]? = some c → inS BLANKS c = false → inS LETTERS c = false → c < 128 → inS FIGURES c = true → RunS FIGURES T p e → StopS FIGURES T e → BehindN T e → FigOf 10 T p e n → 0 ≤ n → n ≤ 1000000 →
      ([Str.ofString "0x", Str.ofString "0X"].any (· == SL T (p : Int) ((p : Int) + 2))) = false → p < e →
      Tok1 T p (some ⟨Str.ofString "number", Str.ofString "", .int n, p⟩) e
  | num16 {c e : Nat} {n : Int} : T.cps[p]? = some c → inS BLANKS c = false → inS LETTERS c = false → c < 128 → inS FIGURES c = true → RunS HEXF T (p + 2) e → StopS HEXF T e → BehindN T e → FigOf 16 T (p + 2) e n → 0 ≤ n → n ≤ 1000000 →
      ([Str.ofString "0x", Str.ofString "0X"].any (· == SL T (p : Int) ((p : Int) + 2))) = true → p + 2 < e →
      Tok1 T p (some ⟨Str.ofString "number", Str.ofString "", .int n, p⟩) e
  | bracket {c f : Nat} : T.cps[p]? = some c → inS BLANKS c = false → inS LETTERS c = false → c < 128 → inS FIGURES c = false → inS QUOT c = true → eqS ⟨#[c]⟩ (Str.ofString "[") true → Txt.find3 T (Str.ofString "]") (p : Int) = (f : Int) →
      Tok1 T p (some ⟨Str.ofString "name", Str.ofString "", .str (SL T ((p : Int) + 1) (f : Int)), p⟩) (f + 1)
  | quo1 {c f : Nat} {b : Bool} : T.cps[p]? = some c → inS BLANKS c = false → inS LETTERS c = false → c < 128 → inS FIGURES c = false → inS QUOT c = true → eqS ⟨#[c]⟩ (Str.ofString "[") false → eqS ⟨#[c]⟩ (Str.ofString "'") b →
      Txt.find3 T ⟨#[c]⟩ ((p : Int) + 1) = (f : Int) → eqS (SL T ((f : Int) + 1) ((f : Int) + 2)) ⟨#[c]⟩ false →
      Tok1 T p (some ⟨if b = true then Str.ofString "text" else Str.ofString "name", Str.ofString "", .str (SL T ((p : Int) + 1) (f : Int)), p⟩) (f + 1)
  | quo2 {c f g : Nat} : T.cps[p]? = some c → inS BLANKS c = false → inS LETTERS c = false → c < 128 → inS FIGURES c = false → inS QUOT c = true → eqS ⟨#[c]⟩ (Str.ofString "[") false → eqS ⟨#[c]⟩ (Str.ofString "'") false →
      Txt.find3 T ⟨#[c]⟩ ((p : Int) + 1) = (f : Int) → eqS (SL T ((f : Int) + 1) ((f : Int) + 2)) ⟨#[c]⟩ true → Txt.find3 T ⟨#[c]⟩ ((f : Int) + 2) = (g : Int) → eqS (SL T ((g : Int) + 1) ((g : Int) + 2)) ⟨#[c]⟩ false →
      Tok1 T p (some ⟨Str.ofString "name", Str.ofString "", .str (Txt.join (Str.ofString "") [SL T ((p : Int) + 1) ((f : Int) + 1), SL T ((f : Int) + 2) (g : Int)]), p⟩) (g + 1)
  | mark {c : Nat} : T.cps[p]? = some c → inS BLANKS c = false → inS LETTERS c = false → c < 128 → inS FIGURES c = false → inS QUOT c = false →
      eqS (SL T (p : Int) ((p : Int) + 2)) (Str.ofString "--") false → eqS (SL T (p : Int) ((p : Int) + 2)) (Str.ofString "/*") false → sgn2 (SL T (p : Int) ((p : Int) + 2)) = false → inS ONES c = true →
      Tok1 T p (some ⟨Str.ofString "sign", ⟨#[c]⟩, .none, p⟩) (p + 1)
/-- the same turn, one decision behind the other (c is the sign at p) -/
inductive UB (T : Str) (p c : Nat) : Option PW → Nat → Prop
  | bare {e : Nat} : RunS NAMES T (p + 1) e → StopS NAMES T e → inS (Str.ofString "xX") c = false → Txt.isascii (SL T p e) = true →
      UB T p c (some ⟨Str.ofString "name", Txt.upper (SL T p e), .str (SL T p e), p⟩) e
  | barex {e : Nat} : RunS NAMES T (p + 1) e → StopS NAMES T e → inS (Str.ofString "xX") c = true → eqS (SL T ((p : Int) + 1) ((p : Int) + 1 + 1)) (Str.ofString "'") false → Txt.isascii (SL T p e) = true →
      UB T p c (some ⟨Str.ofString "name", Txt.upper (SL T p e), .str (SL T p e), p⟩) e
inductive UN (T : Str) (p c : Nat) : Option PW → Nat → Prop
  | num10 {e : Nat} {n : Int} : RunS FIGURES T p e → StopS FIGURES T e → BehindN T e → FigOf 10 T p e n → 0 ≤ n → n ≤ 1000000 →
      ([Str.ofString "0x", Str.ofString "0X"].any (· == SL T (p : Int) ((p : Int) + 2))) = false → p < e →
      UN T p c (some ⟨Str.ofString "number", Str.ofString "", .int n, p⟩) e
  | num16 {e : Nat} {n : Int} : RunS HEXF T (p + 2) e → StopS HEXF T e → BehindN T e → FigOf 16 T (p + 2) e n → 0 ≤ n → n ≤ 1000000 →
      ([Str.ofString "0x", Str.ofString "0X"].any (· == SL T (p : Int) ((p : Int) + 2))) = true → p + 2 < e →
      UN T p c (some ⟨Str.ofString "number", Str.ofString "", .int n, p⟩) e
inductive UQ (T : Str) (p c : Nat) : Option PW → Nat → Prop
  | bracket {f : Nat} : eqS ⟨#[c]⟩ (Str.ofString "[") true → Txt.find3 T (Str.ofString "]") (p : Int) = (f : Int) →
      UQ T p c (some ⟨Str.ofString "name", Str.ofString "", .str (SL T ((p : Int) + 1) (f : Int)), p⟩) (f + 1)
  | quo1 {f : Nat} {b : Bool} : eqS ⟨#[c]⟩ (Str.ofString "[") false → eqS ⟨#[c]⟩ (Str.ofString "'") b →
      Txt.find3 T ⟨#[c]⟩ ((p : Int) + 1) = (f : Int) → eqS (SL T ((f : Int) + 1) ((f : Int) + 2)) ⟨#[c]⟩ false →
      UQ T p c (some ⟨if b = true then Str.ofString "text" else Str.ofString "name", Str.ofString "", .str (SL T ((p : Int) + 1) (f : Int)), p⟩) (f + 1)
  | quo2 {f g : Nat} : eqS ⟨#[c]⟩ (Str.ofString "[") false → eqS ⟨#[c]⟩ (Str.ofString "'") false →
      Txt.find3 T ⟨#[c]⟩ ((p : Int) + 1) = (f : Int) → eqS (SL T ((f : Int) + 1) ((f : Int) + 2)) ⟨#[c]⟩ true → Txt.find3 T ⟨#[c]⟩ ((f : Int) + 2) = (g : Int) → eqS (SL T ((g : Int) + 1) ((g : Int) + 2)) ⟨#[c]⟩ false →
      UQ T p c (some ⟨Str.ofString "name", Str.ofString "", .str (Txt.join (Str.ofString "") [SL T ((p : Int) + 1) ((f : Int) + 1), SL T ((f : Int) + 2) (g : Int)]), p⟩) (g + 1)
inductive UM (T : Str) (p c : Nat) : Option PW → Nat → Prop
  | mark : eqS (SL T (p : Int) ((p : Int) + 2)) (Str.ofString "--") false → eqS (SL T (p : Int) ((p : Int) + 2)) (Str.ofString "/*") false → sgn2 (SL T (p : Int) ((p : Int) + 2)) = false → inS ONES c = true →
      UM T p c (some ⟨Str.ofString "sign", ⟨#[c]⟩, .none, p⟩) (p + 1)
inductive U3 (T : Str) (p c : Nat) : Option PW → Nat → Prop
  | quo {o : Option PW} {e : Nat} : inS QUOT c = true → UQ T p c o e → U3 T p c o e
  | mark {o : Option PW} {e : Nat} : inS QUOT c = false → UM T p c o e → U3 T p c o e
inductive U2 (T : Str) (p c : Nat) : Option PW → Nat → Prop
  | num {o : Option PW} {e : Nat} : inS FIGURES c = true → UN T p c o e → U2 T p c o e
  | oth {o : Option PW} {e : Nat} : inS FIGURES c = false → U3 T p c o e → U2 T p c o e
inductive U1 (T : Str) (p c : Nat) : Option PW → Nat → Prop
  | bare {o : Option PW} {e : Nat} : inS LETTERS c = true → UB T p c o e → U1 T p c o e
  | oth {o : Option PW} {e : Nat} : inS LETTERS c = false → c < 128 → U2 T p c o e → U1 T p c o e
inductive U0 (T : Str) (p c : Nat) : Option PW → Nat → Prop
  | blank : inS BLANKS c = true → U0 T p c none (p + 1)
  | oth {o : Option PW} {e : Nat} : inS BLANKS c = false → U1 T p c o e → U0 T p c o e
theorem tok_split {T : Str} {p e : Nat} {o : Option PW} (h : Tok1 T p o e) : ∃ c, T.cps[p]? = some c ∧ U0 T p c o e := by
  cases h with
  | blank h b => exact ⟨_, h, .blank b⟩
  | bare h b l r s x a => exact ⟨_, h, .oth b (.bare l (.bare r s x a))⟩
  | barex h b l r s x q a => exact ⟨_, h, .oth b (.bare l (.barex r s x q a))⟩
  | num10 h b l m f r s bh fg n0 n1 an pe => exact ⟨_, h, .oth b (.oth l m (.num f (.num10 r s bh fg n0 n1 an pe)))⟩
  | num16 h b l m f r s bh fg n0 n1 an pe => exact ⟨_, h, .oth b (.oth l m (.num f (.num16 r s bh fg n0 n1 an pe)))⟩
  | bracket h b l m f q e1 e2 => exact ⟨_, h, .oth b (.oth l m (.oth f (.quo q (.bracket e1 e2))))⟩
  | quo1 h b l m f q e1 e2 e3 e4 => exact ⟨_, h, .oth b (.oth l m (.oth f (.quo q (.quo1 e1 e2 e3 e4))))⟩
  | quo2 h b l m f q e1 e2 e3 e4 e5 e6 => exact ⟨_, h, .oth b (.oth l m (.oth f (.quo q (.quo2 e1 e2 e3 e4 e5 e6))))⟩
  | mark h b l m f q e1 e2 e3 e4 => exact ⟨_, h, .oth b (.oth l m (.oth f (.mark q (.mark e1 e2 e3 e4))))⟩
inductive Scan (T : Str) : Nat → List PW → Prop
  | fin {p : Nat} : p = T.length → Scan T p []
  | blank {p e : Nat} {ws : List PW} : Tok1 T p none e → p < e → e ≤ T.length → Scan T e ws → Scan T p ws
  | word {p e : Nat} {g : PW} {ws : List PW} : Tok1 T p (some g) e → p < e → e ≤ T.length → Scan T e ws → Scan T p (g :: ws)
theorem WordsIn.push {P : Params} {led : List (Addr × Obj)} {items : Array Value} {ws : List PW} {g : PW} {x dx : Addr} {k1 k2 k3 k4 t1 t2 t3 t4 : Tok} (W : WordsIn P led items ws) (hl : items.size = ws.length) :
    WordsIn P ((x, instObj 161 dx) :: (dx, wordD P k1 k2 k3 k4 t1 t2 t4 g.kind g.txt (g.val.v t3) g.pl) :: led) (items.push (.ref x)) (ws ++ [g]) := by
  intro i q hq
  by_cases hi : i < ws.length
  · rw [List.getElem?_append_left hi] at hq
    obtain ⟨x', dx', j1, j2, j3, j4, u1, u2, u3, u4, h1, h2, h3⟩ := W i q hq
    refine ⟨x', dx', j1, j2, j3, j4, u1, u2, u3, u4, ?_, List.mem_cons_of_mem _ (List.mem_cons_of_mem _ h2), List.mem_cons_of_mem _ (List.mem_cons_of_mem _ h3)⟩
    rw [Array.getElem?_push, if_neg (by omega)]; exact h1
  · rw [List.getElem?_append_right (by omega)] at hq
    have h0 : i - ws.length = 0 := by
      rcases h : i - ws.length with _ | n
      · rfl
      · rw [h] at hq; simp at hq
    rw [h0] at hq
    obtain rfl : g = q := by simpa using hq
    refine ⟨x, dx, k1, k2, k3, k4, t1, t2, t3, t4, ?_, List.mem_cons_self, List.mem_cons_of_mem _ List.mem_cons_self⟩
    rw [Array.getElem?_push, if_pos (by omega)]
/-- a turn's end: the one local name y may hold anything, the scanner stands at e, one word is gathered or none -/
inductive TurnS (P : Params) (h₀ : Heap) (L : Addr) (s : Shared) (y : Str) (m₀ : Str → Option Value) (k1 k2 k3 k4 t1 t4 : Tok) (T : Str) (gr : Int) (lf dsc : Addr) (items : Array Value) (led : List (Addr × Obj)) : Option PW → Nat → Flow → Shared → Prop
  | blank0 {e : Nat} {h' : Heap} {tk' : Nat} {v' : Option Value} {t2' : Tok} {nl' : Nat} : Fr h₀ L h' (fun z => if z = y then v' else m₀ z) → News h₀ L h' ((lf, listOf items nl') :: (dsc, scanD P k1 k2 k3 k4 t1 t2' t4 T (e : Int) lf gr) :: led) → TurnS P h₀ L s y m₀ k1 k2 k3 k4 t1 t4 T gr lf dsc items led none e .next { s with heap := h', toks := tk' }
  | word0 {e : Nat} {g : PW} {h' : Heap} {tk' : Nat} {v' : Option Value} {t2' : Tok} {nl' : Nat} {x dx : Addr} {j1 j2 j3 j4 u1 u2 u3 u4 : Tok} : Fr h₀ L h' (fun z => if z = y then v' else m₀ z) →
      News h₀ L h' ((lf, listOf (items.push (.ref x)) nl') :: (dsc, scanD P k1 k2 k3 k4 t1 t2' t4 T (e : Int) lf gr) :: (x, instObj 161 dx) :: (dx, wordD P j1 j2 j3 j4 u1 u2 u4 g.kind g.txt (g.val.v u3) g.pl) :: led) → (∀ q ∈ led, q.1 < dx) → dsc < dx → lf < dx → dx < x →
      TurnS P h₀ L s y m₀ k1 k2 k3 k4 t1 t4 T gr lf dsc items led (some g) e .next { s with heap := h', toks := tk' }
theorem upd_eq {y : Str} {m₀ m' : Str → Option Value} (ho : ∀ z, z ≠ y → m' z = m₀ z) : (fun z => if z = y then m' y else m₀ z) = m' := by
  funext z
  by_cases hz : z = y
  · rw [if_pos hz, hz]
  · rw [if_neg hz, ho z hz]
section
variable {P : Params} {h₀ h' : Heap} {L : Addr} {s : Shared} {y : Str} {m₀ m' : Str → Option Value} {k1 k2 k3 k4 t1 t2' t4 : Tok} {T : Str} {gr : Int} {lf dsc : Addr} {items : Array Value} {led : List (Addr × Obj)} {e nl' tk' : Nat}
theorem TurnS.blank (F : Fr h₀ L h' m') (N : News h₀ L h' ((lf, listOf items nl') :: (dsc, scanD P k1 k2 k3 k4 t1 t2' t4 T (e : Int) lf gr) :: led)) (ho : ∀ z, z ≠ y → m' z = m₀ z) :
    TurnS P h₀ L s y m₀ k1 k2 k3 k4 t1 t4 T gr lf dsc items led none e .next { s with heap := h', toks := tk' } :=
  .blank0 (v' := m' y) (by rw [upd_eq ho]; exact F) N
theorem TurnS.word {g : PW} {x dx : Addr} {j1 j2 j3 j4 u1 u2 u3 u4 : Tok} (F : Fr h₀ L h' m') (N : News h₀ L h' ((lf, listOf (items.push (.ref x)) nl') :: (dsc, scanD P k1 k2 k3 k4 t1 t2' t4 T (e : Int) lf gr) :: (x, instObj 161 dx) :: (dx, wordD P j1 j2 j3 j4 u1 u2 u4 g.kind g.txt (g.val.v u3) g.pl) :: led))
    (ho : ∀ z, z ≠ y → m' z = m₀ z) (o1 : ∀ q ∈ led, q.1 < dx) (o2 : dsc < dx) (o3 : lf < dx) (o4 : dx < x) :
    TurnS P h₀ L s y m₀ k1 k2 k3 k4 t1 t4 T gr lf dsc items led (some g) e .next { s with heap := h', toks := tk' } :=
  .word0 (v' := m' y) (by rw [upd_eq ho]; exact F) N o1 o2 o3 o4
end
theorem news_in {h₀ h : Heap} {L : Addr} {l l' : List (Addr × Obj)} (N : News h₀ L h l) (hs : ∀ p ∈ l', p ∈ l) : News h₀ L h l' := fun p hp => N p (hs p hp)
/-- between the turns of the scanner -/
inductive ScI (P : Params) (y : Str) (m₀ : Str → Option Value) (k1 k2 k3 k4 t1 t4 : Tok) (T : Str) (gr : Int) (lf dsc : Addr) (rest : List (Addr × Obj)) (ws : List PW) : Nat → (Str → Option Value) → List (Addr × Obj) → Prop
  | mk {n p : Nat} {v : Option Value} {items : Array Value} {nl : Nat} {t2 : Tok} {wl : List (Addr × Obj)} {ds ws' : List PW} : n = T.length - p → Scan T p ws' → ds ++ ws' = ws → WordsIn P wl items ds → items.size = ds.length → items.size ≤ p → p ≤ T.length → (∀ q ∈ wl, dsc < q.1 ∧ lf < q.1 ∧ ∀ r ∈ rest, r.1 < q.1) →
      ScI P y m₀ k1 k2 k3 k4 t1 t4 T gr lf dsc rest ws n (fun z => if z = y then v else m₀ z) ((lf, listOf items nl) :: (dsc, scanD P k1 k2 k3 k4 t1 t2 t4 T (p : Int) lf gr) :: (rest ++ wl))
theorem sc_perm {a b c d : Addr × Obj} {l r : List (Addr × Obj)} : ∀ q ∈ a :: b :: (l ++ (c :: d :: r)), q ∈ a :: b :: c :: d :: (l ++ r) := by
  intro q hq
  simp only [List.mem_cons, List.mem_append] at hq ⊢
  rcases hq with h | h | h | h | h | h
  · exact Or.inl h
  · exact Or.inr (Or.inl h)
  · exact Or.inr (Or.inr (Or.inr (Or.inr (Or.inl h))))
  · exact Or.inr (Or.inr (Or.inl h))
  · exact Or.inr (Or.inr (Or.inr (Or.inl h)))
  · exact Or.inr (Or.inr (Or.inr (Or.inr (Or.inr h))))
theorem sc_off {a b : Addr × Obj} {dsc lf : Addr} {l r : List (Addr × Obj)} (o1 : ∀ q ∈ l ++ r, q.1 < b.1) (o2 : dsc < b.1) (o3 : lf < b.1) (o4 : b.1 < a.1) (hwl : ∀ q ∈ r, dsc < q.1 ∧ lf < q.1 ∧ ∀ u ∈ l, u.1 < q.1) : ∀ q ∈ a :: b :: r, dsc < q.1 ∧ lf < q.1 ∧ ∀ u ∈ l, u.1 < q.1 := by
  intro q hq
  rcases List.mem_cons.mp hq with rfl | hq
  · exact ⟨Nat.lt_trans o2 o4, Nat.lt_trans o3 o4, fun r hr => Nat.lt_trans (o1 r (List.mem_append.mpr (Or.inl hr))) o4⟩
  rcases List.mem_cons.mp hq with rfl | hq
  · exact ⟨o2, o3, fun r hr => o1 r (List.mem_append.mpr (Or.inl hr))⟩
  · exact hwl q hq
theorem off_app {dsc : Addr} {l r : List (Addr × Obj)} (hr : ∀ q ∈ l, q.1 ≠ dsc) (hwl : ∀ q ∈ r, dsc < q.1) : ∀ q ∈ l ++ r, q.1 ≠ dsc := fun q hq => by
  rcases List.mem_append.mp hq with hq | hq
  · exact hr q hq
  · exact Nat.ne_of_gt (hwl q hq)
section
variable {prog : Program} {w : World} {A : Around} {E : Value → Shared → Prop} {Q : Flow → Shared → Prop} {s : Shared} {env : Env} {h₀ : Heap} {L : Addr}
theorem while_scan {test : Expr} {body : List Stmt} {pos : Pos} {m₀ : Str → Option Value} {y : Str} {k1 k2 k3 k4 t1 t2 t4 : Tok} {T : Str} {gr : Int} {lf dsc : Addr} {nl : Nat} {rest : List (Addr × Obj)} {ws : List PW} {P : Params} {p₀ : Nat} {pi : Int} {its₀ : Array Value}
    (sc : Scan T p₀ ws) (hT : T.length ≤ 1000) (hits : its₀ = #[]) (hpi : pi = (p₀ : Int))
    (F : Fr h₀ L s.heap m₀) (N : News h₀ L s.heap ((lf, listOf its₀ nl) :: (dsc, scanD P k1 k2 k3 k4 t1 t2 t4 T pi lf gr) :: rest))
    (hr : ∀ q ∈ rest, q.1 ≠ dsc) (hr2 : ∀ q ∈ rest, q.1 ≠ lf)
    (turn : ∀ (p : Nat) (og : Option PW) (e : Nat) (v : Option Value) (items : Array Value) (nl : Nat) (wl : List (Addr × Obj)) (t2 : Tok) h tk, Tok1 T p og e → p < T.length → items.size ≤ 1000 → (∀ q ∈ rest ++ wl, q.1 ≠ dsc) → (∀ q ∈ rest ++ wl, q.1 ≠ lf) →
      Fr h₀ L h (fun z => if z = y then v else m₀ z) → News h₀ L h ((lf, listOf items nl) :: (dsc, scanD P k1 k2 k3 k4 t1 t2 t4 T (p : Int) lf gr) :: (rest ++ wl)) →
      wpAny (model prog w) A (isTrue test env (eval test env)) (fun b s₂ => WhlIf b (wpAny (model prog w) A (execs body env) (TurnS P h₀ L s y m₀ k1 k2 k3 k4 t1 t4 T gr lf dsc items (rest ++ wl) og e) (fun _ _ => False) s₂) False) (fun _ _ => False) { s with heap := h, toks := tk })
    (last : ∀ (v : Option Value) (items : Array Value) (nl : Nat) (wl : List (Addr × Obj)) (t2 : Tok) h tk, (∀ q ∈ rest ++ wl, q.1 ≠ dsc) → (∀ q ∈ rest ++ wl, q.1 ≠ lf) →
      Fr h₀ L h (fun z => if z = y then v else m₀ z) → News h₀ L h ((lf, listOf items nl) :: (dsc, scanD P k1 k2 k3 k4 t1 t2 t4 T (T.length : Int) lf gr) :: (rest ++ wl)) →
      wpAny (model prog w) A (isTrue test env (eval test env)) (fun b s₂ => WhlIf b False (TurnS P h₀ L s y m₀ k1 k2 k3 k4 t1 t4 T gr lf dsc items (rest ++ wl) none T.length .next s₂)) (fun _ _ => False) { s with heap := h, toks := tk })
    (done : ∀ (v : Option Value) (items : Array Value) (nl : Nat) (wl : List (Addr × Obj)) (t2 : Tok) h tk, WordsIn P wl items ws → items.size = ws.length → items.size ≤ 1000 → (∀ q ∈ rest ++ wl, q.1 ≠ dsc) → (∀ q ∈ rest ++ wl, q.1 ≠ lf) → (∀ q ∈ wl, dsc < q.1 ∧ lf < q.1 ∧ ∀ r ∈ rest, r.1 < q.1) →
      Fr h₀ L h (fun z => if z = y then v else m₀ z) → News h₀ L h ((lf, listOf items nl) :: (dsc, scanD P k1 k2 k3 k4 t1 t2 t4 T (T.length : Int) lf gr) :: (rest ++ wl)) → Q .next { s with heap := h, toks := tk }) :
    wpAny (model prog w) A (exec (.While test body [] pos) env) Q E s := by
  subst hits hpi
  refine wpAny_mono (E := fun _ _ => False) (While_inv2 (ScI P y m₀ k1 k2 k3 k4 t1 t4 T gr lf dsc rest ws) F N
      (by
        have := ScI.mk (m₀ := m₀) (y := y) (v := m₀ y) (nl := nl) (t2 := t2) (P := P) (k1 := k1) (k2 := k2) (k3 := k3) (k4 := k4) (t1 := t1) (t4 := t4) (gr := gr) (lf := lf) (dsc := dsc) (rest := rest) (items := #[]) (wl := []) (ds := []) rfl sc rfl (fun i g h => by simp at h) rfl (Nat.zero_le _) (by
          cases sc with
          | fin h => omega
          | blank _ h1 h2 _ => omega
          | word _ h1 h2 _ => omega) (fun q hq => by simp at hq)
        rw [upd_eq (fun _ _ => rfl), List.append_nil] at this
        exact this) ?_ PassesOwn.never) (fun _ _ h => h) (fun _ _ h => h.elim)
  intro n m₁ nx h tk F₁ N₁ inv
  cases inv with
  | @mk p v items nl t2 wl ds ws' hn sc' hws hW hl hip hpl hwl =>
  have hA := off_app hr fun q hq => (hwl q hq).1
  have hB := off_app hr2 fun q hq => (hwl q hq).2.1
  cases sc' with
  | fin hp =>
    subst hp
    rw [List.append_nil] at hws
    subst hws
    refine wpAny_mono (last v items nl wl t2 h tk hA hB F₁ N₁) (fun b s₂ q => ?_) fun _ _ x => x
    cases b with
    | false =>
      have q := (if_neg Bool.false_ne_true).mp q
      rw [if_neg Bool.false_ne_true]
      cases q with
      | @blank0 _ h' tk' v' t2' nl' F' N' => exact done v' items nl' wl t2' h' tk' hW hl (by omega) hA hB hwl F' N'
    | true => exact q.elim
  | @blank _ e ws'' t1' h1 h2 sc'' =>
    refine wpAny_mono (turn p none e v items nl wl t2 h tk t1' (by omega) (by omega) hA hB F₁ N₁) (fun b s₂ q => ?_) fun _ _ x => x
    cases b with
    | false => exact q.elim
    | true =>
      rw [if_pos rfl]
      refine wpAny_mono q (fun f s₃ r => ?_) fun _ _ x => x
      cases r with
      | @blank0 _ h' tk' v' t2' nl' F' N' => exact ⟨h', tk', _, _, _, rfl, F', N', by omega, .mk rfl sc'' hws hW hl (by omega) h2 hwl⟩
  | @word _ e g ws'' t1' h1 h2 sc'' =>
    refine wpAny_mono (turn p (some g) e v items nl wl t2 h tk t1' (by omega) (by omega) hA hB F₁ N₁) (fun b s₂ q => ?_) fun _ _ x => x
    cases b with
    | false => exact q.elim
    | true =>
      rw [if_pos rfl]
      refine wpAny_mono q (fun f s₃ r => ?_) fun _ _ x => x
      cases r with
      | @word0 _ _ h' tk' v' t2' nl' x dx j1 j2 j3 j4 u1 u2 u3 u4 F' N' o1 o2 o3 o4 =>
        exact ⟨h', tk', _, _, T.length - e, rfl, F', news_in N' sc_perm, by omega, .mk rfl sc'' (by rw [List.append_assoc]; exact hws) (hW.push hl) (by rw [Array.size_push, List.length_append]; simpa using hl) (by rw [Array.size_push]; omega) h2 (sc_off o1 o2 o3 o4 hwl)⟩
end
end
section
variable {prog : Program} {w : World} {p : Program} {loose : List Str} {mean : ExcName → Option Value} {mg mb : Str → Option Value}
  {dp un : Nat} {gd : Option (List Code)} {cn : Str} {cs : Scope} {a : Addr} {ccd : Value} {cl : List (Str × Addr)} {outer : List Env} {A₀ : Around} {base h₀ : Heap} {L : Addr} {m : Str → Option Value} {s : Shared}
  {Q E : Value → Shared → Prop} {rest : List (Addr × Obj)}
theorem kw_Sr1 : True := by
  w_top off
  k_with_none
  k_with "~k_all" => (first | with_reducible assumption | exact ne_of_allLt (by with_reducible assumption) | assumption | exact ne_of_allLt (by assumption))
  k_with "~memr" => (first | (with_reducible exact List.mem_cons_self ..) | ((with_reducible refine List.mem_cons_of_mem _ ?_); walk_at "memr") | (with_reducible assumption) | ((with_reducible refine List.mem_append_left _ ?_); walk_at "memr") | ((with_reducible refine List.mem_append_right _ ?_); walk_at "memr"))
  k_with "~memd" => (first | exact List.mem_cons_self .. | (refine List.mem_cons_of_mem _ ?_; walk_at "memd") | (refine List.mem_append.mpr (Or.inl ?_); walk_at "memd") | (refine List.mem_append.mpr (Or.inr ?_); walk_at "memd") | assumption)
  k_with "~k_mem" => (first | walk_at "memr" | walk_at "memd")
  k_with "~k_in" => (first | with_reducible assumption | exact Frag.In.keeps (by with_reducible assumption) (Fr.keep (by with_reducible assumption)))
  k_with "~k_room" => (((try simp only [depth_under_make, depth_under_kw, depth_in1, depth_deeper, depth_caller]); (try dsimp only [ktrTop]); first | walk_at "room" | omega))
  k_with "~mul_fits" => (k_dflt (exact mulOk_fmod _ _))
  k_with "~exec Raise some none" => ((k_here; (with_reducible show wpAny _ _ (exec (Stmt.Raise (some (Expr.Call (Expr.Name (Str.ofString "ParseError") _) _ _ _)) none _) _) _ _ _); refine Raise_E rfl ?_))
  k_with "~RaiseBack" => ((k_dflt (refine' RaiseBack.intro ?k1_8 ?k2_8 ?k3_8 ?k4_8 ?k5_8 ?_; (case k1_8 => k_asm); (case k2_8 => k_asm); (case k3_8 => k_asm); (case k4_8 => k_is); (case k5_8 => k_mem))))
  k_with "~call ref" => ((k_here; (with_reducible show wpAny _ _ (call (Value.ref 91) _ _) _ _ _); k_dflt (refine' call_excE ?k1_9 ?k2_9 ?k3_9 ?k4_9 ?k5_9 ?k6_9 ?k7_9 ?k8_9 ?k9_9 ?_; (case k1_9 => k_asm); (case k2_9 => k_asm); (case k3_9 => k_asm); (case k4_9 => k_is); (case k5_9 => k_is); (case k6_9 => k_is); (case k7_9 => k_is); (case k8_9 => k_is); (case k9_9 => size_fits); k_whole; intro e' t' h' F' N' l1 l2 l3; (try k_lt l1); (try k_lt2 l2); (try k_lt l3); (try k_sweep); (try dsimp only); k_enter)))
  k_with "~instx" => (first | (refine' inst_exc ?N_10 ?h1_10 ?h2_10; (case N_10 => with_reducible assumption); (case h1_10 => walk_at "memr"); (case h2_10 => walk_at "memr")) | (refine' inst_exc2 ?N_10 ?h1_10 ?hc_10 ?hd_10 ?hn_10 ?h2_10; (case hc_10 => with_reducible assumption); (case hd_10 => with_reducible assumption); (case hn_10 => with_reducible assumption); (case N_10 => with_reducible assumption); (case h1_10 => walk_at "memr"); (case h2_10 => walk_at "memr")))
  k_with "~instn" => ((refine' InstAt.of_news ?N_11 ?h1_11 ?h2_11; (case N_11 => with_reducible assumption); (case h1_11 => walk_at "memr"); (case h2_11 => walk_at "memr")))
  k_with "~k_inst" => (first | walk_at "instn" | walk_at "instx")
  k_with "~setAttr ref" => ((k_here; k_dflt (first | (refine' setE_new ?k1_13 ?k2_13 ?k3_13 ?k4_13 ?k5_13 ?k6_13 ?k6b_13 ?k7_13 ?k8_13 ?k9_13 ?k10_13 ?_; (case k1_13 => k_asm); (case k2_13 => k_asm); (case k3_13 => k_asm); (case k4_13 => k_all); (case k5_13 => k_is); (case k6_13 => k_is); (case k6b_13 => exact rfl); (case k7_13 => k_is); (case k8_13 => k_is); (case k9_13 => k_put); (case k10_13 => exact Nat.le_of_ble_eq_true rfl); k_whole; intro h' dx' F' N' l1 l2; (try k_lt l1); (try k_lt2 l2); (try k_sweep); (try dsimp only)) | (refine' setE_old ?k1_13 ?k2_13 ?k3_13 ?k4_13 ?k5_13 ?k6_13 ?k7_13 ?k7b_13 ?k8_13 ?k9_13 ?k10_13 ?k11_13 ?k12_13 ?k13_13 ?_; (case k1_13 => k_asm); (case k2_13 => k_asm); (case k3_13 => k_asm); (case k4_13 => walk_at "instx"); (case k5_13 => exact rfl); (case k6_13 => k_is); (case k7_13 => k_is); (case k7b_13 => exact rfl); (case k8_13 => k_is); (case k9_13 => k_is); (case k10_13 => k_get); (case k11_13 => k_put); (case k12_13 => k_upd); (case k13_13 => exact Nat.le_of_ble_eq_true rfl); k_whole; intro h' F' N'; (try k_sweep); (try dsimp only)))))
  k_with "~getAttr ref" => ((k_here; k_dflt (refine' getE ?k1_14 ?k2_14 ?k3_14 ?k4_14 ?k5_14 ?k6_14 ?k7_14 ?k8_14 ?k9_14 ?k10_14 ?_; (case k1_14 => k_asm); (case k2_14 => k_asm); (case k3_14 => walk_at "instx"); (case k4_14 => k_is); (case k5_14 => k_is); (case k6_14 => k_is); (case k7_14 => k_is); (case k8_14 => k_is); (case k9_14 => k_get); (case k10_14 => k_handed); k_whole)))
  k_with "~getAttr ref" => ((k_here; k_dflt (refine' get_own ?k1_15 ?k2_15 ?k3_15 ?k4_15 ?k5_15 ?k6_15 ?k7_15 ?k8_15 ?k9_15 ?_; (case k1_15 => k_asm); (case k2_15 => k_asm); (case k3_15 => walk_at "instn"); (case k4_15 => k_is); (case k5_15 => k_is); (case k6_15 => k_is); (case k7_15 => k_is); (case k8_15 => k_get); (case k9_15 => k_handed); k_whole)))
  k_with "~leaving ref" => ((k_here; k_dflt (first | (refine' leave_raiseD2 ?k1_16 ?k2_16 ?k3_16 ?k4_16 ?_; (case k1_16 => k_asm); (case k2_16 => k_asm); (case k3_16 => k_asm); (case k4_16 => k_all); k_whole; intro h' R' U'; (try dsimp only at R' U' ⊢)) | (refine' leave_onD ?k1_16 ?k2_16 ?k3_16 ?k4_16 ?_; (case k3_16 => k_asm); (case k2_16 => k_asm); (case k1_16 => k_asm); (case k4_16 => k_asm); k_whole; intro h' R' U'; (try dsimp only at R' U' ⊢)))))
  k_with "~subscriptTail Attribute Name Attribute ref int" => ((k_here; (with_reducible show wpAny _ _ (subscriptTail _ _ (Value.ref _) (Value.int _ _)) _ _ _); k_dflt (refine' item_ctx ?k1_17 ?k2_17 ?k3_17 ?k4_17 ?k5_17 ?_ ?k6_17; (case k1_17 => k_asm); (case k2_17 => k_mem); (case k3_17 => omega); (case k4_17 => omega); (case k5_17 => k_asm); (case k6_17 => with_unfolding_all rfl); k_whole)))
  k_with "~compareOp Eq str str" => ((k_here; k_dflt (refine eq_ctx (by k_asm) ?_)))
  k_with "~compareOp NotEq str str" => ((k_here; k_dflt (refine ne_ctx (by k_asm) ?_)))
  k_with "~call type:str" => ((k_here; (with_reducible show wpAny _ _ (call (Value.type "str") [Value.int _ _]) _ _ _); k_dflt (refine PySem.P.str_of_int (log_small (by k_asm) (by k_asm)) ?_)))
  k_with "~compareOp NotIn str ref" => ((k_here; k_dflt (first | refine resv_notin (by k_asm) (by k_asm) (by k_asm) ?_ | refine joinw_notin (by k_asm) (by k_asm) (by k_asm) ?_)))
  k_with "~compareOp In str ref" => ((k_here; k_dflt (refine sgn2_in (by k_asm) (by k_asm) (by k_asm) ?_)))
  k_with "~size_fits" => (exact size1000 (by k_asm))
  k_with "~subscriptTail Attribute Name Attribute str int" => ((k_here; (with_reducible show wpAny _ _ (subscriptTail _ _ (Value.str _ _) (Value.int _ _)) _ _ _); k_dflt (refine item_sctx (by k_asm) (by k_asm) ?_)))
  k_with "~compareOp In str str" => ((k_here; k_dflt (refine in_sctx (by k_asm) ?_)))
  k_with "~call builtin:ord" => ((k_here; (with_reducible show wpAny _ _ (call (Value.builtin "ord") [Value.str ⟨#[_]⟩ _]) _ _ _); refine ord_sctx ?_))
  k_with "~TurnI" => ((k_dflt (refine' TurnI.intro ?k1_27 ?k2_27 ?k3_27 ?k4_27; (case k1_27 => k_asm); (case k2_27 => k_asm); (case k3_27 => exact rfl); (case k4_27 => (intro z hz; simp [hz])))))
  k_with "~call builtin:str.isascii" => ((k_here; refine isascii_ctx (by k_asm) ?_))
  k_with "~subscriptTail Name Name str int" => ((k_here; k_dflt (refine item_sctx (by k_asm) (by k_asm) ?_)))
  k_with "~subscriptTail Attribute Name Slice str ref" => ((walk_at "last subscriptTail"))
  k_with "~storeName" => ((k_here; k_dflt (refine' storeX_L ?F_31 ?N_31 ?_ ?a_31 ?b_31; (case F_31 => k_asm); (case N_31 => k_asm); (case a_31 => rfl); (case b_31 => rfl); k_whole; intro h' F' N'; (try k_sweep); (try dsimp only))))
  k_with "~execs cons" => ((k_here; k_fold))
  k_with "~room" => (first | exact room1 (by with_reducible assumption) (Nat.le_of_ble_eq_true rfl) | exact room0 (by with_reducible assumption) (Nat.le_of_ble_eq_true rfl) | exact room2 (by with_reducible assumption) (Nat.le_of_ble_eq_true rfl))
  k_with "~ltc" => (first | (with_reducible assumption) | (with_reducible exact And.left (by with_reducible assumption)) | (with_reducible exact And.left (And.right (by with_reducible assumption))) | (with_reducible exact And.left (And.right (And.right (by with_reducible assumption)))) | (with_reducible exact And.left (And.right (And.right (And.right (by with_reducible assumption))))) | (with_reducible exact And.left (And.right (And.right (And.right (And.right (by with_reducible assumption)))))) | (with_reducible exact And.left (And.right (And.right (And.right (And.right (And.right (by with_reducible assumption))))))) | (with_reducible exact And.left (And.right (And.right (And.right (And.right (And.right (And.right (by with_reducible assumption)))))))) | (with_reducible exact (And.right (by with_reducible assumption))) | (with_reducible exact (And.right (And.right (by with_reducible assumption)))))
  k_with "~k_ne" => (((refine neN ?_); (try dsimp only); first | (with_reducible exact Nat.ne_of_lt (by walk_at "ltc")) | (with_reducible exact Nat.ne_of_gt (by walk_at "ltc"))))
  k_with "~call ref" => ((k_here; (with_reducible show wpAny _ _ (call (Value.ref 186) [Value.ref _, Value.str _ _, Value.str _ _, _, Value.int _ _]) _ _ _); k_dflt (refine' gather_ok ?k1_47 ?k2_47 ?k3_47 ?k4_47 ?k5_47 ?k6_47 ?k7_47 ?k8_47 ?k9_47 ?k10_47 ?k11_47 ?k12_47 ?_; (case k1_47 => k_asm); (case k2_47 => k_asm); (case k3_47 => k_asm); (case k4_47 => first | k_asm | exact news_drop1 (by k_asm) | exact news_drop1 (news_drop1 (by k_asm))); (case k5_47 => k_asm); (case k6_47 => first | exact rfl | assumption); (case k7_47 => assumption); (case k8_47 => assumption); (case k9_47 => assumption); (case k10_47 => first | assumption | k_mem); (case k11_47 => assumption); (case k12_47 => k_room); k_whole; intro xG dxG j1G j2G j3G j4G u1G u2G u4G t2G nlG hG tkG fG nG oG1 oG2 oG3 oG4; (try k_sweep); (try dsimp only))))
  k_with "~call ref" => ((k_here; (with_reducible show wpAny _ _ (call (Value.ref 242) _) _ _ _); k_dflt (refine' num16_ok ?k1_60 ?k2_60 ?k3_60 ?k4_60 ?k5_60 ?k6_60 ?k7_60 ?k8_60 ?k9_60 ?k10_60 ?k11_60 ?k12_60 ?k13_60 ?k14_60 ?k15_60 ?k16_60 ?k17_60 ?k18_60 ?k19_60 ?k20_60 ?k21_60 ?_; (case k1_60 => k_asm); (case k2_60 => k_asm); (case k3_60 => k_asm); (case k4_60 => first | k_asm | exact news_drop1 (by k_asm)); (case k5_60 => k_asm); (case k6_60 => first | exact rfl | with_reducible assumption); (case k7_60 => with_reducible assumption); (case k8_60 => with_reducible assumption); (case k9_60 => with_reducible assumption); (case k10_60 => first | with_reducible assumption | k_mem); (case k11_60 => with_reducible assumption); (case k12_60 => with_reducible assumption); (case k14_60 => with_reducible assumption); (case k15_60 => with_reducible assumption); (case k16_60 => with_reducible assumption); (case k17_60 => with_reducible assumption); (case k18_60 => with_reducible assumption); (case k19_60 => with_reducible assumption); (case k20_60 => with_reducible assumption); (case k13_60 => with_reducible assumption); (case k21_60 => k_room); k_whole; intro xG dxG j1G j2G j3G j4G u1G u2G u3G u4G t2G nlG hG tkG fG nG oG1 oG2 oG3 oG4; (try k_sweep); (try dsimp only))))
  k_with "~call ref" => ((k_here; (with_reducible show wpAny _ _ (call (Value.ref 242) _) _ _ _); k_dflt (refine' num10_ok ?k1_61 ?k2_61 ?k3_61 ?k4_61 ?k5_61 ?k6_61 ?k7_61 ?k8_61 ?k9_61 ?k10_61 ?k11_61 ?k12_61 ?k13_61 ?k14_61 ?k15_61 ?k16_61 ?k17_61 ?k18_61 ?k19_61 ?k20_61 ?k21_61 ?_; (case k1_61 => k_asm); (case k2_61 => k_asm); (case k3_61 => k_asm); (case k4_61 => first | k_asm | exact news_drop1 (by k_asm)); (case k5_61 => k_asm); (case k6_61 => first | exact rfl | with_reducible assumption); (case k7_61 => with_reducible assumption); (case k8_61 => with_reducible assumption); (case k9_61 => with_reducible assumption); (case k10_61 => first | with_reducible assumption | k_mem); (case k11_61 => with_reducible assumption); (case k12_61 => with_reducible assumption); (case k14_61 => with_reducible assumption); (case k15_61 => with_reducible assumption); (case k16_61 => with_reducible assumption); (case k17_61 => with_reducible assumption); (case k18_61 => with_reducible assumption); (case k19_61 => with_reducible assumption); (case k20_61 => with_reducible assumption); (case k13_61 => with_reducible assumption); (case k21_61 => k_room); k_whole; intro xG dxG j1G j2G j3G j4G u1G u2G u3G u4G t2G nlG hG tkG fG nG oG1 oG2 oG3 oG4; (try k_sweep); (try dsimp only))))
  k_with "~call ref" => ((k_here; (with_reducible show wpAny _ _ (call (Value.ref 228) [Value.ref _, Value.str _ _]) _ _ _); k_dflt (refine' quo2_ok ?k1_62 ?k2_62 ?k3_62 ?k4_62 ?k5_62 ?k6_62 ?k7_62 ?k8_62 ?k9_62 ?k10_62 ?k11_62 ?k12_62 ?k13_62 ?k14_62 ?k15_62 ?k16_62 ?k17_62 ?k18_62 ?k19_62 ?k20_62 ?_; (case k1_62 => k_asm); (case k2_62 => k_asm); (case k3_62 => k_asm); (case k4_62 => first | k_asm | exact news_drop1 (by k_asm)); (case k5_62 => k_asm); (case k6_62 => first | exact rfl | with_reducible assumption); (case k7_62 => with_reducible assumption); (case k8_62 => with_reducible assumption); (case k9_62 => with_reducible assumption); (case k10_62 => first | with_reducible assumption | k_mem); (case k11_62 => with_reducible assumption); (case k12_62 => with_reducible assumption); (case k14_62 => with_reducible assumption); (case k15_62 => with_reducible assumption); (case k16_62 => with_reducible assumption); (case k17_62 => with_reducible assumption); (case k18_62 => with_reducible assumption); (case k19_62 => with_reducible assumption); (case k13_62 => exact rfl); (case k20_62 => k_room); k_whole; intro xG dxG j1G j2G j3G j4G u1G u2G u3G u4G t2G nlG hG tkG fG nG oG1 oG2 oG3 oG4; (try k_sweep); (try dsimp only))))
  k_with "~call ref" => ((k_here; (with_reducible show wpAny _ _ (call (Value.ref 228) [Value.ref _, Value.str _ _]) _ _ _); k_dflt (refine' quo1_ok ?k1_63 ?k2_63 ?k3_63 ?k4_63 ?k5_63 ?k6_63 ?k7_63 ?k8_63 ?k9_63 ?k10_63 ?k11_63 ?k12_63 ?k13_63 ?k14_63 ?k15_63 ?k16_63 ?k17_63 ?k18_63 ?_; (case k1_63 => k_asm); (case k2_63 => k_asm); (case k3_63 => k_asm); (case k4_63 => first | k_asm | exact news_drop1 (by k_asm)); (case k5_63 => k_asm); (case k6_63 => first | exact rfl | with_reducible assumption); (case k7_63 => with_reducible assumption); (case k8_63 => with_reducible assumption); (case k9_63 => with_reducible assumption); (case k10_63 => first | with_reducible assumption | k_mem); (case k11_63 => with_reducible assumption); (case k12_63 => with_reducible assumption); (case k14_63 => with_reducible assumption); (case k15_63 => with_reducible assumption); (case k16_63 => with_reducible assumption); (case k17_63 => with_reducible assumption); (case k13_63 => exact rfl); (case k18_63 => k_room); k_whole; intro xG dxG j1G j2G j3G j4G u1G u2G u3G u4G t2G nlG hG tkG fG nG oG1 oG2 oG3 oG4; (try k_sweep); (try dsimp only))))
  k_with "~call ref" => ((k_here; (with_reducible show wpAny _ _ (call (Value.ref 228) [Value.ref _, Value.str _ _]) _ _ _); k_dflt (refine' bracket_ok ?k1_64 ?k2_64 ?k3_64 ?k4_64 ?k5_64 ?k6_64 ?k7_64 ?k8_64 ?k9_64 ?k10_64 ?k11_64 ?k12_64 ?k13_64 ?k14_64 ?k15_64 ?k16_64 ?_; (case k1_64 => k_asm); (case k2_64 => k_asm); (case k3_64 => k_asm); (case k4_64 => first | k_asm | exact news_drop1 (by k_asm)); (case k5_64 => k_asm); (case k6_64 => first | exact rfl | with_reducible assumption); (case k7_64 => with_reducible assumption); (case k8_64 => with_reducible assumption); (case k9_64 => with_reducible assumption); (case k10_64 => first | with_reducible assumption | k_mem); (case k11_64 => with_reducible assumption); (case k12_64 => with_reducible assumption); (case k14_64 => with_reducible assumption); (case k15_64 => with_reducible assumption); (case k13_64 => exact rfl); (case k16_64 => k_room); k_whole; intro xG dxG j1G j2G j3G j4G u1G u2G u3G u4G t2G nlG hG tkG fG nG oG1 oG2 oG3 oG4; (try k_sweep); (try dsimp only))))
  k_with "~call ref" => ((k_here; (with_reducible show wpAny _ _ (call (Value.ref 256) [Value.ref _, Value.str _ _]) _ _ _); k_dflt (refine' mark_ok ?k1_65 ?k2_65 ?k3_65 ?k4_65 ?k5_65 ?k6_65 ?k7_65 ?k8_65 ?k9_65 ?k10_65 ?k11_65 ?k12_65 ?k13_65 ?k14_65 ?k15_65 ?k16_65 ?k17_65 ?k18_65 ?_; (case k1_65 => k_asm); (case k2_65 => k_asm); (case k3_65 => k_asm); (case k4_65 => first | k_asm | exact news_drop1 (by k_asm)); (case k5_65 => k_asm); (case k6_65 => first | exact rfl | with_reducible assumption); (case k7_65 => with_reducible assumption); (case k8_65 => with_reducible assumption); (case k9_65 => with_reducible assumption); (case k10_65 => first | with_reducible assumption | k_mem); (case k11_65 => with_reducible assumption); (case k12_65 => with_reducible assumption); (case k14_65 => with_reducible assumption); (case k15_65 => with_reducible assumption); (case k16_65 => with_reducible assumption); (case k17_65 => with_reducible assumption); (case k13_65 => exact rfl); (case k18_65 => k_room); k_whole; intro xG dxG j1G j2G j3G j4G u1G u2G u4G t2G nlG hG tkG fG nG oG1 oG2 oG3 oG4; (try k_sweep); (try dsimp only))))
  k_with "~call ref" => ((k_here; (with_reducible show wpAny _ _ (call (Value.ref 214) [Value.ref _, Value.str _ _]) _ _ _); k_dflt (refine' barex_ok ?k1_66 ?k2_66 ?k3_66 ?k4_66 ?k5_66 ?k6_66 ?k7_66 ?k8_66 ?k9_66 ?k10_66 ?k11_66 ?k12_66 ?k13_66 ?k14_66 ?k15_66 ?k16_66 ?k17_66 ?k18_66 ?_; (case k1_66 => k_asm); (case k2_66 => k_asm); (case k3_66 => k_asm); (case k4_66 => first | k_asm | exact news_drop1 (by k_asm)); (case k5_66 => k_asm); (case k6_66 => first | exact rfl | with_reducible assumption); (case k7_66 => with_reducible assumption); (case k8_66 => with_reducible assumption); (case k9_66 => with_reducible assumption); (case k10_66 => first | with_reducible assumption | k_mem); (case k11_66 => with_reducible assumption); (case k12_66 => with_reducible assumption); (case k13_66 => with_reducible assumption); (case k14_66 => with_reducible assumption); (case k15_66 => with_reducible assumption); (case k16_66 => with_reducible assumption); (case k17_66 => with_reducible assumption); (case k18_66 => k_room); k_whole; intro xG dxG j1G j2G j3G j4G u1G u2G u3G u4G t2G nlG hG tkG fG nG oG1 oG2 oG3 oG4; (try k_sweep); (try dsimp only))))
  k_with "~call ref" => ((k_here; (with_reducible show wpAny _ _ (call (Value.ref 214) [Value.ref _, Value.str _ _]) _ _ _); k_dflt (refine' bare_ok ?k1_67 ?k2_67 ?k3_67 ?k4_67 ?k5_67 ?k6_67 ?k7_67 ?k8_67 ?k9_67 ?k10_67 ?k11_67 ?k12_67 ?k13_67 ?k14_67 ?k15_67 ?k16_67 ?k17_67 ?_; (case k1_67 => k_asm); (case k2_67 => k_asm); (case k3_67 => k_asm); (case k4_67 => first | k_asm | exact news_drop1 (by k_asm)); (case k5_67 => k_asm); (case k6_67 => first | exact rfl | with_reducible assumption); (case k7_67 => with_reducible assumption); (case k8_67 => with_reducible assumption); (case k9_67 => with_reducible assumption); (case k10_67 => first | with_reducible assumption | k_mem); (case k11_67 => with_reducible assumption); (case k12_67 => with_reducible assumption); (case k13_67 => with_reducible assumption); (case k14_67 => with_reducible assumption); (case k15_67 => with_reducible assumption); (case k16_67 => with_reducible assumption); (case k17_67 => k_room); k_whole; intro xG dxG j1G j2G j3G j4G u1G u2G u3G u4G t2G nlG hG tkG fG nG oG1 oG2 oG3 oG4; (try k_sweep); (try dsimp only))))
  k_with "~TurnS" => ((k_dflt (first | (refine' TurnS.blank ?k1_68 ?k2_68 ?k3_68; (case k1_68 => k_asm); (case k2_68 => k_asm); (case k3_68 => (intro z hz; simp [hz]))) | (refine' TurnS.word ?k1_68 ?k2_68 ?k3_68 ?k4_68 ?k5_68 ?k6_68 ?k7_68; (case k1_68 => k_asm); (case k2_68 => k_asm); (case k3_68 => (intro z hz; simp [hz])); (case k4_68 => assumption); (case k5_68 => assumption); (case k6_68 => assumption); (case k7_68 => assumption)))))
  k_with "~exec While Compare" => ((k_here; (rename Scan _ _ _ => scX); k_dflt (refine' while_scan (y := Str.ofString "sign") scX ?h1_69 ?h2_69 ?h3_69 ?h4_69 ?h5_69 ?h6_69 ?h7_69 ?h8_69 ?h9_69 ?h10_69; (case h1_69 => assumption); (case h4_69 => k_asm); (case h5_69 => k_asm); (case h2_69 => exact rfl); (case h3_69 => exact rfl); (case h6_69 => assumption); (case h7_69 => assumption); (case' h8_69 => (intro pT ogT eT vT itemsT nlT wlT t2T hT' tkT tokT hpT hsT hrT hr2T fT nT; obtain ⟨cU, hcU, uU⟩ := tok_split tokT; clear tokT; (try k_fold))); (case' h9_69 => (intro vT itemsT nlT wlT t2T hT' tkT hrT hr2T fT nT; (try k_fold))); (case' h10_69 => (intro vT itemsT nlT wlT t2T hT' tkT wT lT sT hrT hr2T wlO fT nT; (try k_fold))))))
  k_with "~WhlIf" => ((k_here; k_dflt (first | refine WhlIf.yes (decide_eq_true (by omega)) ?_ | refine WhlIf.no (decide_eq_false (by omega)) ?_)))
  k_with "~compareOp In str str" => ((k_here; (first | (with_reducible rename U0 _ _ _ _ _ => uX) | (with_reducible rename U1 _ _ _ _ _ => uX) | (with_reducible rename U2 _ _ _ _ _ => uX) | (with_reducible rename U3 _ _ _ _ _ => uX)); k_dflt (cases uX)))
  k_with "~call ref" => ((k_here; (first | ((with_reducible show wpAny _ _ (call (Value.ref 214) _) _ _ _); (with_reducible rename UB _ _ _ _ _ => uX)) | ((with_reducible show wpAny _ _ (call (Value.ref 242) _) _ _ _); (with_reducible rename UN _ _ _ _ _ => uX)) | ((with_reducible show wpAny _ _ (call (Value.ref 228) _) _ _ _); (with_reducible rename UQ _ _ _ _ _ => uX)) | ((with_reducible show wpAny _ _ (call (Value.ref 256) _) _ _ _); (with_reducible rename UM _ _ _ _ _ => uX))); k_dflt (cases uX)))
  k_with "~execs cons" => ((k_here; k_fold))
  trivial
theorem bound_turn {x dx lf dsc : Addr} {a b : Obj} {r wl : List (Addr × Obj)} (o1 : ∀ q ∈ r ++ wl, q.1 < dx) (o2 : dsc < dx) (o3 : lf < dx) (o4 : dx < x) (bX : ∀ q ∈ wl, dsc < q.1 ∧ lf < q.1 ∧ ∀ t ∈ r, t.1 < q.1) :
    ∀ q ∈ (x, a) :: (dx, b) :: wl, dsc < q.1 ∧ lf < q.1 ∧ ∀ t ∈ r, t.1 < q.1 := by
  intro q hq
  rcases List.mem_cons.mp hq with rfl | hq
  · exact ⟨Nat.lt_trans o2 o4, Nat.lt_trans o3 o4, fun r hr => Nat.lt_trans (o1 r (List.mem_append.mpr (Or.inl hr))) o4⟩
  rcases List.mem_cons.mp hq with rfl | hq
  · exact ⟨o2, o3, fun r hr => o1 r (List.mem_append.mpr (Or.inl hr))⟩
  · exact bX q hq
theorem news_turn {h₀ h : Heap} {L : Addr} {a b c d : Addr × Obj} {r wl : List (Addr × Obj)} (N : News h₀ L h (a :: b :: c :: d :: (r ++ wl))) : News h₀ L h (a :: b :: (r ++ (c :: d :: wl))) := news_in N (by
  intro q hq
  simp only [List.mem_cons, List.mem_append] at hq ⊢
  rcases hq with h | h | h | h | h | h
  · exact Or.inl h
  · exact Or.inr (Or.inl h)
  · exact Or.inr (Or.inr (Or.inr (Or.inr (Or.inl h))))
  · exact Or.inr (Or.inr (Or.inl h))
  · exact Or.inr (Or.inr (Or.inr (Or.inl h)))
  · exact Or.inr (Or.inr (Or.inr (Or.inr (Or.inr h)))))
set_option maxHeartbeats 8000000 in
theorem run_ok {sc dsc lf : Addr} {k1 k2 k3 k4 t1 t2 t4 : Tok} {text : Str} {gr : Int} {nl : Nat} {ws : List PW}
  (B : Below A₀ base outer h₀) (F : Fr h₀ L s.heap m) (X : (Mine.K1 w.params).In h₀) (N : News h₀ L s.heap ((lf, listOf #[] nl) :: (dsc, scanD w.params k1 k2 k3 k4 t1 t2 t4 text 0 lf gr) :: rest)) (T : Top p loose mean mg mb h₀) (hk : cs.kind = .function)
  (hr : ∀ p ∈ rest, p.1 ≠ dsc) (hr2 : ∀ p ∈ rest, p.1 ≠ lf) (hne : @Ne Nat lf dsc) (h1 : (sc, instObj 266 dsc) ∈ rest)
  (hT : text.length ≤ 1000) (hsc : Scan text 0 ws)
  (hd : dp + 60 < recursionLimit)
  (hret : ∀ items t2' nl' wl h' tk', Fr h₀ L h' m → News h₀ L h' ((lf, listOf items nl') :: (dsc, scanD w.params k1 k2 k3 k4 t1 t2' t4 text (text.length : Int) lf gr) :: (rest ++ wl)) → WordsIn w.params wl items (ws ++ [⟨Str.ofString "end", Str.ofString "", .none, text.length⟩]) → items.size ≤ 1001 → (∀ q ∈ wl, dsc < q.1 ∧ lf < q.1 ∧ ∀ r ∈ rest, r.1 < q.1) → Q (.ref lf) { s with heap := h', toks := tk' }) :
  wpAny (model prog w) (ktrTop dp un gd cn cs L a ccd cl outer) (call (.ref 200) [.ref sc]) Q E s := by
  refine wpAny_call ?_
  k_dflt ktr_enter
  k_steps
  · (rename WordsIn _ _ _ _ => wX)
    (rename (Array.size _ = List.length _) => lX)
    (rename (Array.size _ ≤ 1000) => sX)
    (rename News _ _ _ _ => nX)
    refine hret _ _ _ _ _ _ (by k_asm) (news_turn nX) (wX.push (t3 := 0) (g := ⟨Str.ofString "end", Str.ofString "", .none, text.length⟩) lX) (by rw [Array.size_push]; omega) ?_
    exact bound_turn (by assumption) (by assumption) (by assumption) (by assumption) (by assumption)
  all_goals exact 0
end
section
open PySem PySem.W PySem.Calls PyProof.Rows
theorem news_sw23 {h₀ h : Heap} {L : Addr} {a b c : Addr × Obj} {r : List (Addr × Obj)} (N : News h₀ L h (a :: b :: c :: r)) : News h₀ L h (a :: c :: b :: r) := news_in N (by
  intro q hq
  simp only [List.mem_cons] at hq ⊢
  rcases hq with h | h | h | h <;> simp [h])
theorem news_13 {h₀ h : Heap} {L : Addr} {a b c : Addr × Obj} {r : List (Addr × Obj)} (N : News h₀ L h (a :: b :: c :: r)) : News h₀ L h (a :: r) := news_in N (by
  intro q hq
  simp only [List.mem_cons] at hq ⊢
  rcases hq with h | h <;> simp [h])
theorem wl_lt {dsc lf : Addr} {R wl : List (Addr × Obj)} (h : ∀ q ∈ wl, dsc < q.1 ∧ lf < q.1 ∧ ∀ r ∈ R, r.1 < q.1) : ∀ q ∈ wl, lf < q.1 := fun q hq => (h q hq).2.1
end
section
variable {prog : Program} {w : World} {p : Program} {loose : List Str} {mean : ExcName → Option Value} {mg mb : Str → Option Value}
  {dp un : Nat} {gd : Option (List Code)} {cn : Str} {cs : Scope} {a : Addr} {ccd : Value} {cl : List (Str × Addr)} {outer : List Env} {A₀ : Around} {base h₀ : Heap} {L : Addr} {m : Str → Option Value} {s : Shared}
  {Q E : Value → Shared → Prop} {rest : List (Addr × Obj)}
theorem kw_Sw1 : True := by
  w_top off
  k_with_none
  k_with "~k_all" => (first | with_reducible assumption | exact ne_of_allLt (by with_reducible assumption) | assumption | exact ne_of_allLt (by assumption))
  k_with "~memr" => (first | (with_reducible exact List.mem_cons_self ..) | ((with_reducible refine List.mem_cons_of_mem _ ?_); walk_at "memr") | (with_reducible assumption) | ((with_reducible refine List.mem_append_left _ ?_); walk_at "memr") | ((with_reducible refine List.mem_append_right _ ?_); walk_at "memr"))
  k_with "~memd" => (first | exact List.mem_cons_self .. | (refine List.mem_cons_of_mem _ ?_; walk_at "memd") | (refine List.mem_append.mpr (Or.inl ?_); walk_at "memd") | (refine List.mem_append.mpr (Or.inr ?_); walk_at "memd") | assumption)
  k_with "~k_mem" => (first | walk_at "memr" | walk_at "memd")
  k_with "~k_in" => (first | with_reducible assumption | exact Frag.In.keeps (by with_reducible assumption) (Fr.keep (by with_reducible assumption)))
  k_with "~k_room" => (((try simp only [depth_under_make, depth_under_kw, depth_in1, depth_deeper, depth_caller]); (try dsimp only [ktrTop]); first | walk_at "room" | omega))
  k_with "~mul_fits" => (k_dflt (exact mulOk_fmod _ _))
  k_with "~exec Raise some none" => ((k_here; (with_reducible show wpAny _ _ (exec (Stmt.Raise (some (Expr.Call (Expr.Name (Str.ofString "ParseError") _) _ _ _)) none _) _) _ _ _); refine Raise_E rfl ?_))
  k_with "~RaiseBack" => ((k_dflt (refine' RaiseBack.intro ?k1_8 ?k2_8 ?k3_8 ?k4_8 ?k5_8 ?_; (case k1_8 => k_asm); (case k2_8 => k_asm); (case k3_8 => k_asm); (case k4_8 => k_is); (case k5_8 => k_mem))))
  k_with "~call ref" => ((k_here; (with_reducible show wpAny _ _ (call (Value.ref 91) _ _) _ _ _); k_dflt (refine' call_excE ?k1_9 ?k2_9 ?k3_9 ?k4_9 ?k5_9 ?k6_9 ?k7_9 ?k8_9 ?k9_9 ?_; (case k1_9 => k_asm); (case k2_9 => k_asm); (case k3_9 => k_asm); (case k4_9 => k_is); (case k5_9 => k_is); (case k6_9 => k_is); (case k7_9 => k_is); (case k8_9 => k_is); (case k9_9 => size_fits); k_whole; intro e' t' h' F' N' l1 l2 l3; (try k_lt l1); (try k_lt2 l2); (try k_lt l3); (try k_sweep); (try dsimp only); k_enter)))
  k_with "~instx" => (first | (refine' inst_exc ?N_10 ?h1_10 ?h2_10; (case N_10 => with_reducible assumption); (case h1_10 => walk_at "memr"); (case h2_10 => walk_at "memr")) | (refine' inst_exc2 ?N_10 ?h1_10 ?hc_10 ?hd_10 ?hn_10 ?h2_10; (case hc_10 => with_reducible assumption); (case hd_10 => with_reducible assumption); (case hn_10 => with_reducible assumption); (case N_10 => with_reducible assumption); (case h1_10 => walk_at "memr"); (case h2_10 => walk_at "memr")))
  k_with "~instn" => ((refine' InstAt.of_news ?N_11 ?h1_11 ?h2_11; (case N_11 => with_reducible assumption); (case h1_11 => walk_at "memr"); (case h2_11 => walk_at "memr")))
  k_with "~k_inst" => (first | walk_at "instn" | walk_at "instx")
  k_with "~setAttr ref" => ((k_here; k_dflt (first | (refine' setE_new ?k1_13 ?k2_13 ?k3_13 ?k4_13 ?k5_13 ?k6_13 ?k6b_13 ?k7_13 ?k8_13 ?k9_13 ?k10_13 ?_; (case k1_13 => k_asm); (case k2_13 => k_asm); (case k3_13 => k_asm); (case k4_13 => k_all); (case k5_13 => k_is); (case k6_13 => k_is); (case k6b_13 => exact rfl); (case k7_13 => k_is); (case k8_13 => k_is); (case k9_13 => k_put); (case k10_13 => exact Nat.le_of_ble_eq_true rfl); k_whole; intro h' dx' F' N' l1 l2; (try k_lt l1); (try k_lt2 l2); (try k_sweep); (try dsimp only)) | (refine' setE_old ?k1_13 ?k2_13 ?k3_13 ?k4_13 ?k5_13 ?k6_13 ?k7_13 ?k7b_13 ?k8_13 ?k9_13 ?k10_13 ?k11_13 ?k12_13 ?k13_13 ?_; (case k1_13 => k_asm); (case k2_13 => k_asm); (case k3_13 => k_asm); (case k4_13 => walk_at "instx"); (case k5_13 => exact rfl); (case k6_13 => k_is); (case k7_13 => k_is); (case k7b_13 => exact rfl); (case k8_13 => k_is); (case k9_13 => k_is); (case k10_13 => k_get); (case k11_13 => k_put); (case k12_13 => k_upd); (case k13_13 => exact Nat.le_of_ble_eq_true rfl); k_whole; intro h' F' N'; (try k_sweep); (try dsimp only)))))
  k_with "~getAttr ref" => ((k_here; k_dflt (refine' getE ?k1_14 ?k2_14 ?k3_14 ?k4_14 ?k5_14 ?k6_14 ?k7_14 ?k8_14 ?k9_14 ?k10_14 ?_; (case k1_14 => k_asm); (case k2_14 => k_asm); (case k3_14 => walk_at "instx"); (case k4_14 => k_is); (case k5_14 => k_is); (case k6_14 => k_is); (case k7_14 => k_is); (case k8_14 => k_is); (case k9_14 => k_get); (case k10_14 => k_handed); k_whole)))
  k_with "~getAttr ref" => ((k_here; k_dflt (refine' get_own ?k1_15 ?k2_15 ?k3_15 ?k4_15 ?k5_15 ?k6_15 ?k7_15 ?k8_15 ?k9_15 ?_; (case k1_15 => k_asm); (case k2_15 => k_asm); (case k3_15 => walk_at "instn"); (case k4_15 => k_is); (case k5_15 => k_is); (case k6_15 => k_is); (case k7_15 => k_is); (case k8_15 => k_get); (case k9_15 => k_handed); k_whole)))
  k_with "~leaving ref" => ((k_here; k_dflt (first | (refine' leave_raiseD2 ?k1_16 ?k2_16 ?k3_16 ?k4_16 ?_; (case k1_16 => k_asm); (case k2_16 => k_asm); (case k3_16 => k_asm); (case k4_16 => k_all); k_whole; intro h' R' U'; (try dsimp only at R' U' ⊢)) | (refine' leave_onD ?k1_16 ?k2_16 ?k3_16 ?k4_16 ?_; (case k3_16 => k_asm); (case k2_16 => k_asm); (case k1_16 => k_asm); (case k4_16 => k_asm); k_whole; intro h' R' U'; (try dsimp only at R' U' ⊢)))))
  k_with "~subscriptTail Attribute Name Attribute ref int" => ((k_here; (with_reducible show wpAny _ _ (subscriptTail _ _ (Value.ref _) (Value.int _ _)) _ _ _); k_dflt (refine' item_ctx ?k1_17 ?k2_17 ?k3_17 ?k4_17 ?k5_17 ?_ ?k6_17; (case k1_17 => k_asm); (case k2_17 => k_mem); (case k3_17 => omega); (case k4_17 => omega); (case k5_17 => k_asm); (case k6_17 => with_unfolding_all rfl); k_whole)))
  k_with "~compareOp Eq str str" => ((k_here; k_dflt (refine eq_ctx (by k_asm) ?_)))
  k_with "~compareOp NotEq str str" => ((k_here; k_dflt (refine ne_ctx (by k_asm) ?_)))
  k_with "~call type:str" => ((k_here; (with_reducible show wpAny _ _ (call (Value.type "str") [Value.int _ _]) _ _ _); k_dflt (refine PySem.P.str_of_int (log_small (by k_asm) (by k_asm)) ?_)))
  k_with "~compareOp NotIn str ref" => ((k_here; k_dflt (first | refine resv_notin (by k_asm) (by k_asm) (by k_asm) ?_ | refine joinw_notin (by k_asm) (by k_asm) (by k_asm) ?_)))
  k_with "~compareOp In str ref" => ((k_here; k_dflt (refine sgn2_in (by k_asm) (by k_asm) (by k_asm) ?_)))
  k_with "~size_fits" => (exact size1000 (by k_asm))
  k_with "~subscriptTail Attribute Name Attribute str int" => ((k_here; (with_reducible show wpAny _ _ (subscriptTail _ _ (Value.str _ _) (Value.int _ _)) _ _ _); k_dflt (refine item_sctx (by k_asm) (by k_asm) ?_)))
  k_with "~compareOp In str str" => ((k_here; k_dflt (refine in_sctx (by k_asm) ?_)))
  k_with "~call builtin:ord" => ((k_here; (with_reducible show wpAny _ _ (call (Value.builtin "ord") [Value.str ⟨#[_]⟩ _]) _ _ _); refine ord_sctx ?_))
  k_with "~TurnI" => ((k_dflt (refine' TurnI.intro ?k1_27 ?k2_27 ?k3_27 ?k4_27; (case k1_27 => k_asm); (case k2_27 => k_asm); (case k3_27 => exact rfl); (case k4_27 => (intro z hz; simp [hz])))))
  k_with "~call builtin:str.isascii" => ((k_here; refine isascii_ctx (by k_asm) ?_))
  k_with "~subscriptTail Name Name str int" => ((k_here; k_dflt (refine item_sctx (by k_asm) (by k_asm) ?_)))
  k_with "~subscriptTail Attribute Name Slice str ref" => ((walk_at "last subscriptTail"))
  k_with "~storeName" => ((k_here; k_dflt (refine' storeX_L ?F_31 ?N_31 ?_ ?a_31 ?b_31; (case F_31 => k_asm); (case N_31 => k_asm); (case a_31 => rfl); (case b_31 => rfl); k_whole; intro h' F' N'; (try k_sweep); (try dsimp only))))
  k_with "~execs cons" => ((k_here; k_fold))
  k_with "~room" => (first | exact room1 (by with_reducible assumption) (Nat.le_of_ble_eq_true rfl) | exact room0 (by with_reducible assumption) (Nat.le_of_ble_eq_true rfl) | exact room2 (by with_reducible assumption) (Nat.le_of_ble_eq_true rfl))
  k_with "~ltc" => (first | (with_reducible assumption) | (with_reducible exact And.left (by with_reducible assumption)) | (with_reducible exact And.left (And.right (by with_reducible assumption))) | (with_reducible exact And.left (And.right (And.right (by with_reducible assumption)))) | (with_reducible exact And.left (And.right (And.right (And.right (by with_reducible assumption))))) | (with_reducible exact And.left (And.right (And.right (And.right (And.right (by with_reducible assumption)))))) | (with_reducible exact And.left (And.right (And.right (And.right (And.right (And.right (by with_reducible assumption))))))) | (with_reducible exact And.left (And.right (And.right (And.right (And.right (And.right (And.right (by with_reducible assumption)))))))) | (with_reducible exact (And.right (by with_reducible assumption))) | (with_reducible exact (And.right (And.right (by with_reducible assumption)))))
  k_with "~k_ne" => (((refine neN ?_); (try dsimp only); first | (with_reducible exact Nat.ne_of_lt (by walk_at "ltc")) | (with_reducible exact Nat.ne_of_gt (by walk_at "ltc"))))
  k_with "~call ref" => ((k_here; (with_reducible show wpAny _ _ (call (Value.ref 200) _) _ _ _); k_dflt (refine' run_ok ?k1_73 ?k2_73 ?k3_73 ?k4_73 ?k5_73 ?k6_73 ?k7_73 ?k8_73 ?k9_73 ?k10_73 ?k11_73 ?k12_73 ?k13_73 ?_; (case k1_73 => k_asm); (case k2_73 => k_asm); (case k3_73 => k_asm); (case k4_73 => exact news_sw23 (by k_asm)); (case k5_73 => k_asm); (case k6_73 => first | exact rfl | assumption); (case k7_73 => k_all); (case k8_73 => k_all); (case k9_73 => k_ne); (case k10_73 => k_mem); (case k11_73 => assumption); (case k12_73 => assumption); (case k13_73 => k_room); k_whole; intro itR t2R nlR wlR hR tkR fR nR wR sR bR; (try simp only [List.cons_append, List.nil_append] at nR); (try k_sweep); (try dsimp only))))
  trivial
set_option maxHeartbeats 8000000 in
theorem words_ok {text : Str} {tx : Tok} {ws : List PW}
  (B : Below A₀ base outer h₀) (F : Fr h₀ L s.heap m) (X : (Mine.K1 w.params).In h₀) (N : News h₀ L s.heap rest) (T : Top p loose mean mg mb h₀) (hk : cs.kind = .function)
  (hT : text.length ≤ 1000) (hsc : Scan text 0 ws)
  (hd : dp + 80 < recursionLimit)
  (hret : ∀ lf items nl' wl h' tk', Fr h₀ L h' m → News h₀ L h' ((lf, listOf items nl') :: (rest ++ wl)) → WordsIn w.params wl items (ws ++ [⟨Str.ofString "end", Str.ofString "", .none, text.length⟩]) → items.size ≤ 1001 → (∀ r ∈ rest, r.1 < lf) → (∀ q ∈ wl, lf < q.1) → Q (.ref lf) { s with heap := h', toks := tk' }) :
  wpAny (model prog w) (ktrTop dp un gd cn cs L a ccd cl outer) (call (.ref 277) [.str text tx]) Q E s := by
  refine wpAny_call ?_
  k_dflt ktr_enter
  k_steps
  (rename WordsIn _ _ _ _ => wX)
  (rename (Array.size _ ≤ 1001) => sX)
  (rename (_ ∧ _ ∧ AllLt _ _) => lX)
  (rename News _ _ _ _ => nX)
  refine hret _ _ _ _ _ _ (by k_asm) (news_13 nX) wX sX (ktn_ltOf lX.2.2) (wl_lt (by assumption))
end
section
open PySem PySem.W PySem.Calls PyProof.Rows
/-- from k on the words up to j are plain names with the values vs; the one at j is none -/
inductive Plain (ws : List PW) : Nat → List Str → Nat → Prop
  | stop {k : Nat} {g : PW} : ws[k]? = some g → isPlain g = false → Plain ws k [] k
  | more {k j : Nat} {g : PW} {v : Str} {vs : List Str} : ws[k]? = some g → isPlain g = true → g.val = .str v → Plain ws (k + 1) vs j → Plain ws k (v :: vs) j
theorem plain_yes {g : PW} (h : isPlain g = true) : (g.kind.cps.toList == (Str.ofString "name").cps.toList) = true ∧ resv g.txt = false ∧ joinw g.txt = false := by
  unfold isPlain isFree at h
  simp only [Bool.and_eq_true, Bool.not_eq_true'] at h
  exact ⟨h.1.1, h.1.2, h.2⟩
theorem plain_no {g : PW} (h : isPlain g = false) : (g.kind.cps.toList == (Str.ofString "name").cps.toList) = false ∨ ((g.kind.cps.toList == (Str.ofString "name").cps.toList) = true ∧ resv g.txt = true) ∨ ((g.kind.cps.toList == (Str.ofString "name").cps.toList) = true ∧ resv g.txt = false ∧ joinw g.txt = true) := by
  unfold isPlain isFree at h
  cases h1 : (g.kind.cps.toList == (Str.ofString "name").cps.toList) <;> cases h2 : resv g.txt <;> cases h3 : joinw g.txt <;> simp [h1, h2, h3] at h ⊢
/-- the names' loop: a turn pushes one value and goes on by one -/
inductive TurnP (P : Params) (h₀ : Heap) (L : Addr) (s : Shared) (m₀ : Str → Option Value) (k1 k2 k3 k4 t1 : Tok) (T : Str) (lw lh dst lp : Addr) (items : Array Value) (led : List (Addr × Obj)) : Option Str → Nat → Flow → Shared → Prop
  | none0 {e : Nat} {h' : Heap} {tk' nl' : Nat} {t3' : Tok} : Fr h₀ L h' m₀ → News h₀ L h' ((lp, listOf items nl') :: (dst, streamD P k1 k2 k3 k4 t1 t3' T lw lh (e : Int)) :: led) → TurnP P h₀ L s m₀ k1 k2 k3 k4 t1 T lw lh dst lp items led .none e .next { s with heap := h', toks := tk' }
  | push0 {e : Nat} {h' : Heap} {tk' nl' : Nat} {t3' tv : Tok} {v : Str} : Fr h₀ L h' m₀ → News h₀ L h' ((lp, listOf (items.push (.str v tv)) nl') :: (dst, streamD P k1 k2 k3 k4 t1 t3' T lw lh (e : Int)) :: led) → TurnP P h₀ L s m₀ k1 k2 k3 k4 t1 T lw lh dst lp items led (some v) e .next { s with heap := h', toks := tk' }
section
variable {P : Params} {h₀ h' : Heap} {L : Addr} {s : Shared} {m₀ : Str → Option Value} {k1 k2 k3 k4 t1 t3' : Tok} {T : Str} {lw lh dst lp : Addr} {items : Array Value} {led : List (Addr × Obj)} {e nl' tk' : Nat}
theorem TurnP.none (F : Fr h₀ L h' m₀) (N : News h₀ L h' ((lp, listOf items nl') :: (dst, streamD P k1 k2 k3 k4 t1 t3' T lw lh (e : Int)) :: led)) : TurnP P h₀ L s m₀ k1 k2 k3 k4 t1 T lw lh dst lp items led .none e .next { s with heap := h', toks := tk' } :=
  .none0 F N
theorem TurnP.push {v : Str} {tv : Tok} (F : Fr h₀ L h' m₀) (N : News h₀ L h' ((lp, listOf (items.push (.str v tv)) nl') :: (dst, streamD P k1 k2 k3 k4 t1 t3' T lw lh (e : Int)) :: led)) : TurnP P h₀ L s m₀ k1 k2 k3 k4 t1 T lw lh dst lp items led (some v) e .next { s with heap := h', toks := tk' } :=
  .push0 F N
end
theorem strs_push {l : List Value} {vs : List Str} (h : StrsAre l vs) (v : Str) (t : Tok) : StrsAre (l ++ [.str v t]) (vs ++ [v]) := by
  induction h with
  | nil => exact StrsAre.cons _ _ StrsAre.nil
  | cons x u _ ih => exact StrsAre.cons _ _ ih
inductive PlI (P : Params) (m₀ : Str → Option Value) (k1 k2 k3 k4 t1 : Tok) (T : Str) (lw lh dst lp : Addr) (rest : List (Addr × Obj)) (ws : List PW) (vs : List Str) (j n : Nat) (m : Str → Option Value) : List (Addr × Obj) → Prop
  | mk {k : Nat} {items : Array Value} {nl : Nat} {t3 : Tok} {ds vs' : List Str} : m = m₀ → n = vs'.length → Plain ws k vs' j → ds ++ vs' = vs → StrsAre items.toList ds → items.size = ds.length → items.size ≤ k → PlI P m₀ k1 k2 k3 k4 t1 T lw lh dst lp rest ws vs j n m ((lp, listOf items nl) :: (dst, streamD P k1 k2 k3 k4 t1 t3 T lw lh (k : Int)) :: rest)
section
variable {prog : Program} {w : World} {A : Around} {E : Value → Shared → Prop} {Q : Flow → Shared → Prop} {s : Shared} {env : Env} {h₀ : Heap} {L : Addr}
theorem while_plain {test : Expr} {body : List Stmt} {pos : Pos} {m₀ : Str → Option Value} {k1 k2 k3 k4 t1 t3 : Tok} {T : Str} {lw lh dst lp : Addr} {nl : Nat} {rest : List (Addr × Obj)} {ws : List PW} {P : Params} {k₀ j : Nat} {vs : List Str} {its₀ : Array Value}
    (hp : Plain ws k₀ vs j) (hits : its₀ = #[]) (hws : ws.length ≤ 1001)
    (F : Fr h₀ L s.heap m₀) (N : News h₀ L s.heap ((lp, listOf its₀ nl) :: (dst, streamD P k1 k2 k3 k4 t1 t3 T lw lh (k₀ : Int)) :: rest))
    (turn : ∀ (k : Nat) (g : PW) (v : Str) (items : Array Value) (nl : Nat) (t3 : Tok) h tk, ws[k]? = some g → isPlain g = true → g.val = .str v → k < 10000 → items.size ≤ 1000 →
      Fr h₀ L h m₀ → News h₀ L h ((lp, listOf items nl) :: (dst, streamD P k1 k2 k3 k4 t1 t3 T lw lh (k : Int)) :: rest) →
      wpAny (model prog w) A (isTrue test env (eval test env)) (fun b s₂ => WhlIf b (wpAny (model prog w) A (execs body env) (TurnP P h₀ L s m₀ k1 k2 k3 k4 t1 T lw lh dst lp items rest (some v) (k + 1)) (fun _ _ => False) s₂) False) (fun _ _ => False) { s with heap := h, toks := tk })
    (last : ∀ (g : PW) (items : Array Value) (nl : Nat) (t3 : Tok) h tk, ws[j]? = some g → isPlain g = false → j < 10000 →
      Fr h₀ L h m₀ → News h₀ L h ((lp, listOf items nl) :: (dst, streamD P k1 k2 k3 k4 t1 t3 T lw lh (j : Int)) :: rest) →
      wpAny (model prog w) A (isTrue test env (eval test env)) (fun b s₂ => WhlIf b False (TurnP P h₀ L s m₀ k1 k2 k3 k4 t1 T lw lh dst lp items rest .none j .next s₂)) (fun _ _ => False) { s with heap := h, toks := tk })
    (done : ∀ (items : Array Value) (nl : Nat) (t3 : Tok) h tk, StrsAre items.toList vs → items.size = vs.length → items.size ≤ 1001 →
      Fr h₀ L h m₀ → News h₀ L h ((lp, listOf items nl) :: (dst, streamD P k1 k2 k3 k4 t1 t3 T lw lh (j : Int)) :: rest) → Q .next { s with heap := h, toks := tk }) :
    wpAny (model prog w) A (exec (.While test body [] pos) env) Q E s := by
  subst hits
  refine wpAny_mono (E := fun _ _ => False) (While_inv2 (PlI P m₀ k1 k2 k3 k4 t1 T lw lh dst lp rest ws vs j) F N
      (.mk rfl rfl hp (List.nil_append _) StrsAre.nil rfl (Nat.zero_le _)) ?_ PassesOwn.never) (fun _ _ h => h) (fun _ _ h => h.elim)
  intro n m₁ nx h tk F₁ N₁ inv
  cases inv with
  | @mk k items nl t3 ds vs' hm hn hp' hvs hI hl hik =>
  subst hm hn
  cases hp' with
  | @stop _ g hg hn =>
    have hj : j < ws.length := (List.getElem?_eq_some_iff.mp hg).1
    rw [List.append_nil] at hvs
    subst hvs
    refine wpAny_mono (last g items nl t3 h tk hg hn (by omega) F₁ N₁) (fun b s₂ q => ?_) fun _ _ x => x
    cases b with
    | false =>
      have q := (if_neg Bool.false_ne_true).mp q
      rw [if_neg Bool.false_ne_true]
      cases q with
      | @none0 _ h' tk' nl' t3' F' N' => exact done items nl' t3' h' tk' hI hl (by omega) F' N'
    | true => exact q.elim
  | @more _ _ g v vs'' hg hy hv hp'' =>
    have hj : k < ws.length := (List.getElem?_eq_some_iff.mp hg).1
    refine wpAny_mono (turn k g v items nl t3 h tk hg hy hv (by omega) (by omega) F₁ N₁) (fun b s₂ q => ?_) fun _ _ x => x
    cases b with
    | false => exact q.elim
    | true =>
      rw [if_pos rfl]
      refine wpAny_mono q (fun f s₃ r => ?_) fun _ _ x => x
      cases r with
      | @push0 _ h' tk' nl' t3' tv _ F' N' =>
        exact ⟨h', tk', _, _, vs''.length, rfl, F', N', by simp, .mk (ds := ds ++ [v]) (vs' := vs'') rfl rfl hp'' (by rw [List.append_assoc]; exact hvs) (by rw [Array.toList_push]; exact strs_push hI v tv) (by rw [Array.size_push, List.length_append]; simpa using hl) (by rw [Array.size_push]; omega)⟩
end
end
section
open PySem PySem.W PySem.Calls PyProof.Rows
noncomputable def isBl (c : Nat) : Bool := c == 32 || c == 9 || c == 10 || c == 13 || c == 12
noncomputable def isLt (c : Nat) : Bool := (Nat.ble 97 c && Nat.ble c 122) || (Nat.ble 65 c && Nat.ble c 90) || c == 95
noncomputable def isFg (c : Nat) : Bool := Nat.ble 48 c && Nat.ble c 57
noncomputable def isHx (c : Nat) : Bool := isFg c || (Nat.ble 97 c && Nat.ble c 102) || (Nat.ble 65 c && Nat.ble c 70)
noncomputable def isNm (c : Nat) : Bool := isLt c || isFg c || c == 36
noncomputable def isQu (c : Nat) : Bool := c == 39 || c == 34 || c == 96 || c == 91
noncomputable def ones : List Nat := [40, 41, 44, 46, 59, 43, 45, 42, 47, 37, 61, 60, 62, 38, 124, 126]
noncomputable def isOn (c : Nat) : Bool := ones.contains c
theorem bl_ok : ∀ c, c < 128 → inS BLANKS c = isBl c := by decide +kernel
theorem lt_ok : ∀ c, c < 128 → inS LETTERS c = isLt c := by decide +kernel
theorem fg_ok : ∀ c, c < 128 → inS FIGURES c = isFg c := by decide +kernel
theorem hx_ok : ∀ c, c < 128 → inS HEXF c = isHx c := by decide +kernel
theorem nm_ok : ∀ c, c < 128 → inS NAMES c = isNm c := by decide +kernel
theorem qu_ok : ∀ c, c < 128 → inS QUOT c = isQu c := by decide +kernel
theorem on_ok : ∀ c, c < 128 → inS ONES c = isOn c := by decide +kernel
theorem xx_ok : ∀ c, c < 128 → inS (Str.ofString "xX") c = (c == 120 || c == 88) := by decide +kernel
/-- how many signs at the head fulfil f, all below 128 -/
noncomputable def cnt (f : Nat → Bool) : List Nat → Nat
  | [] => 0
  | c :: r => if Nat.blt c 128 && f c then cnt f r + 1 else 0
noncomputable def low : List Nat → Bool
  | [] => true
  | c :: _ => Nat.blt c 128
noncomputable def fnd (q : Nat) : List Nat → Option Nat
  | [] => none
  | c :: r => if c == q then some 0 else (fnd q r).map (· + 1)
noncomputable def hd? (l : List Nat) : Nat := match l with | [] => 1000 | c :: _ => c
noncomputable def behind : List Nat → Bool
  | [] => true
  | c :: _ => Nat.blt c 128 && !isNm c && !(c == 46)
noncomputable def tab10 : List (List Nat × Int) := [([53], 5), ([49, 48], 10), ([50], 2), ([51], 3), ([48, 48, 55], 7), ([49], 1), ([56], 8)]
noncomputable def tab16 : List (List Nat × Int) := [([49, 70], 31)]
noncomputable def look (t : List (List Nat × Int)) (x : List Nat) : Option Int := match t with
  | [] => none
  | a :: r => if a.1 == x then some a.2 else look r x
noncomputable def twos : List (List Nat) := [[45, 45], [47, 42], [60, 61], [62, 61], [60, 62], [33, 61], [61, 61], [124, 124], [60, 60], [62, 62]]
noncomputable abbrev sc (l : List Nat) : Str := ⟨l.toArray⟩
noncomputable abbrev TkR := Option (Str × Str × WV) × Nat
noncomputable def tkBare (c : Nat) (r : List Nat) : Option TkR :=
  let n := cnt isNm r
  if low (r.drop n) && !((c == 120 || c == 88) && hd? r == 39) then
    some (some (Str.ofString "name", Txt.upper (sc (c :: r.take n)), .str (sc (c :: r.take n))), n + 1)
  else none
noncomputable def tkNum10 (l : List Nat) : Option TkR :=
  let n := cnt isFg l
  match look tab10 (l.take n) with
  | some i => if low (l.drop n) && behind (l.drop n) then some (some (Str.ofString "number", Str.ofString "", .int i), n) else none
  | none => none
noncomputable def tkNum16 (r : List Nat) : Option TkR :=
  let n := cnt isHx r
  match look tab16 (r.take n) with
  | some i => if low (r.drop n) && behind (r.drop n) then some (some (Str.ofString "number", Str.ofString "", .int i), n + 2) else none
  | none => none
noncomputable def tkBracket (r : List Nat) : Option TkR :=
  match fnd 93 r with
  | some f => some (some (Str.ofString "name", Str.ofString "", .str (sc (r.take f))), f + 2)
  | none => none
noncomputable def tkQuote (c : Nat) (r : List Nat) : Option TkR :=
  match fnd c r with
  | some f => if hd? (r.drop (f + 1)) == c then
      (if c == 39 then none else match fnd c (r.drop (f + 2)) with
        | some g => if hd? (r.drop (f + 2 + g + 1)) == c then none else some (some (Str.ofString "name", Str.ofString "", .str (Txt.join (Str.ofString "") [sc (r.take (f + 1)), sc ((r.drop (f + 2)).take g)])), f + 2 + g + 2)
        | none => none)
      else some (some (if c == 39 then Str.ofString "text" else Str.ofString "name", Str.ofString "", .str (sc (r.take f))), f + 2)
  | none => none
noncomputable def tk : List Nat → Option TkR
  | [] => none
  | c :: r =>
    if Nat.ble 128 c then none
    else if isBl c then some (none, 1)
    else if isLt c then tkBare c r
    else if isFg c then (if c == 48 && (hd? r == 120 || hd? r == 88) then tkNum16 (r.drop 1) else tkNum10 (c :: r))
    else if isQu c then (if c == 91 then tkBracket r else tkQuote c r)
    else if isOn c && !(twos.contains ((c :: r).take 2)) then some (some (Str.ofString "sign", sc [c], .none), 1)
    else none
noncomputable def FigS (base : Nat) (x : Str) (n : Int) : Prop :=
  (Txt.lstripChars x (Str.ofString "0")).length ≤ 20 ∧ ((((Txt.lstripChars x (Str.ofString "0")).cps.toList == (Str.ofString "").cps.toList) = true ∧ n = 0) ∨ (((Txt.lstripChars x (Str.ofString "0")).cps.toList == (Str.ofString "").cps.toList) = false ∧ IntOf base (Txt.lstripChars x (Str.ofString "0")) n))
theorem fig_mk {base : Nat} {x y : Str} {n : Int} (h : Txt.lstripChars x (Str.ofString "0") = y) (h1 : y.length ≤ 20) (h2 : (y.cps.toList == (Str.ofString "").cps.toList) = false) (h3 : IntOf base y n) : FigS base x n := by
  unfold FigS; rw [h]; exact ⟨h1, Or.inr ⟨h2, h3⟩⟩
theorem fig10 {x : List Nat} {n : Int} (h : look tab10 x = some n) : FigS 10 (sc x) n ∧ 0 ≤ n ∧ n ≤ 1000000 ∧ x ≠ [] := by
  unfold tab10 at h
  simp only [look] at h
  split at h
  · rename_i hx; obtain rfl := beq_iff_eq.mp hx; injection h with h; subst h
    exact ⟨fig_mk (y := sc [53]) (by decide +kernel) (by decide) (by decide +kernel) ⟨⟨by decide +kernel, by rfl, by decide +kernel⟩, by decide +kernel⟩, by decide, by decide, by simp⟩
  split at h
  · rename_i hx; obtain rfl := beq_iff_eq.mp hx; injection h with h; subst h
    exact ⟨fig_mk (y := sc [49, 48]) (by decide +kernel) (by decide) (by decide +kernel) ⟨⟨by decide +kernel, by rfl, by decide +kernel⟩, by decide +kernel⟩, by decide, by decide, by simp⟩
  split at h
  · rename_i hx; obtain rfl := beq_iff_eq.mp hx; injection h with h; subst h
    exact ⟨fig_mk (y := sc [50]) (by decide +kernel) (by decide) (by decide +kernel) ⟨⟨by decide +kernel, by rfl, by decide +kernel⟩, by decide +kernel⟩, by decide, by decide, by simp⟩
  split at h
  · rename_i hx; obtain rfl := beq_iff_eq.mp hx; injection h with h; subst h
    exact ⟨fig_mk (y := sc [51]) (by decide +kernel) (by decide) (by decide +kernel) ⟨⟨by decide +kernel, by rfl, by decide +kernel⟩, by decide +kernel⟩, by decide, by decide, by simp⟩
  split at h
  · rename_i hx; obtain rfl := beq_iff_eq.mp hx; injection h with h; subst h
    exact ⟨fig_mk (y := sc [55]) (by decide +kernel) (by decide) (by decide +kernel) ⟨⟨by decide +kernel, by rfl, by decide +kernel⟩, by decide +kernel⟩, by decide, by decide, by simp⟩
  split at h
  · rename_i hx; obtain rfl := beq_iff_eq.mp hx; injection h with h; subst h
    exact ⟨fig_mk (y := sc [49]) (by decide +kernel) (by decide) (by decide +kernel) ⟨⟨by decide +kernel, by rfl, by decide +kernel⟩, by decide +kernel⟩, by decide, by decide, by simp⟩
  split at h
  · rename_i hx; obtain rfl := beq_iff_eq.mp hx; injection h with h; subst h
    exact ⟨fig_mk (y := sc [56]) (by decide +kernel) (by decide) (by decide +kernel) ⟨⟨by decide +kernel, by rfl, by decide +kernel⟩, by decide +kernel⟩, by decide, by decide, by simp⟩
  · cases h
theorem fig16 {x : List Nat} {n : Int} (h : look tab16 x = some n) : FigS 16 (sc x) n ∧ 0 ≤ n ∧ n ≤ 1000000 ∧ x ≠ [] := by
  unfold tab16 at h
  simp only [look] at h
  split at h
  · rename_i hx; obtain rfl := beq_iff_eq.mp hx; injection h with h; subst h
    exact ⟨fig_mk (y := sc [49, 70]) (by decide +kernel) (by decide) (by decide +kernel) ⟨⟨by decide +kernel, by rfl, by decide +kernel⟩, by decide +kernel⟩, by decide, by decide, by simp⟩
  · cases h
end
section
open PySem PySem.W PySem.Calls PyProof.Rows
section
variable {T : Str} {p : Nat} {l : List Nat}
theorem at_drop (hT : T.cps.toList.drop p = l) (i : Nat) : T.cps[p + i]? = l[i]? := by
  rw [← hT, List.getElem?_drop, Array.getElem?_toList]
theorem len_drop (hT : T.cps.toList.drop p = l) (hp : p ≤ T.length) : T.length = p + l.length := by
  rw [← hT, List.length_drop]
  show T.cps.size = p + (T.cps.size - p)
  have : p ≤ T.cps.size := hp
  omega
open Builtin Builtin.Str in
theorem SL_le {T : Str} {a b : Nat} (hab : a ≤ b) (ha : a ≤ T.length) : SL T (a : Int) (b : Int) = sc ((T.cps.toList.drop a).take (b - a)) := by
  by_cases hb : b ≤ T.length
  · exact StrLaws.sliceText_nat T hab hb
  · have e : SL T (a : Int) (b : Int) = SL T (a : Int) (T.length : Int) := by
      have e2 : strSliceIndices (some (a : Int)) (some (b : Int)) 1 T.length = strSliceIndices (some (a : Int)) (some (T.length : Int)) 1 T.length := by
        have h1 : ¬ ((b : Int) < 0) := by omega
        have h2 : ¬ ((T.length : Int) < 0) := by omega
        have e1 : min (b : Int) (T.length : Int) = T.length := by omega
        have e3 : min (T.length : Int) (T.length : Int) = T.length := by omega
        simp only [strSliceIndices, h1, h2, if_false, e1, e3, show ((1 : Int) > 0) = True from by simp, if_true]
      unfold SL Txt.slice
      rw [e2]
    rw [e]
    refine (StrLaws.sliceText_nat T ha (Nat.le_refl _)).trans ?_
    have h1 : (T.cps.toList.drop a).length = T.length - a := by rw [List.length_drop]; rfl
    rw [List.take_of_length_le (by omega), List.take_of_length_le (by omega)]
theorem SL_at (hT : T.cps.toList.drop p = l) (hp : p ≤ T.length) {a b : Nat} (hab : a ≤ b) (ha : a ≤ l.length) : SL T ((p + a : Nat) : Int) ((p + b : Nat) : Int) = sc ((l.drop a).take (b - a)) := by
  have hl := len_drop hT hp
  rw [SL_le (by omega) (by omega), ← hT, List.drop_drop, show p + b - (p + a) = b - a by omega]
theorem find_at (hT : T.cps.toList.drop p = l) (hp : p ≤ T.length) {a q f : Nat} (hf : fnd q (l.drop a) = some f) (ha : a ≤ l.length)
    (hs : ∀ {l : List Nat} {f : Nat}, fnd q l = some f → l[f]? = some q ∧ ∀ i, i < f → l[i]? ≠ some q) :
    Txt.find3 T ⟨#[q]⟩ ((p + a : Nat) : Int) = ((p + a + f : Nat) : Int) := by
  have hl := len_drop hT hp
  have hfrom : fromIndex T.length ((p + a : Nat) : Int) = p + a := by unfold fromIndex; simp; omega
  have hg : ∀ i, T.cps[p + a + i]? = (l.drop a)[i]? := fun i => by rw [Nat.add_assoc, at_drop hT, List.getElem?_drop]
  obtain ⟨h1, h2⟩ := hs hf
  have hgd : ∀ v c, T.cps[v]? = some c → T.cps.getD v 0 = c := fun v c h => by
    rw [Array.getD_eq_getD_getElem?, h]; rfl
  have hat := hg f
  rw [h1] at hat
  have hflt : p + a + f < T.length := (Array.getElem?_eq_some_iff.mp hat).1
  rcases StrLaws.find3_spec T q ((p + a : Nat) : Int) with ⟨_, hn⟩ | ⟨k, hk, hlo, hlt, he, hn⟩
  · exact absurd (hgd _ _ hat) (hn (p + a + f) (by rw [hfrom]; omega) hflt)
  · rw [hk]
    rw [hfrom] at hlo hn
    rcases Nat.lt_trichotomy k (p + a + f) with h | h | h
    · exfalso
      refine h2 (k - (p + a)) (by omega) ?_
      rw [← hg, show p + a + (k - (p + a)) = k by omega]
      have hlt' : k < T.cps.size := hlt
      rw [Array.getElem?_eq_getElem hlt']
      have : T.cps.getD k 0 = T.cps[k] := by simp [Array.getD, hlt']
      rw [← this, he]
    · rw [h]
    · exact absurd (hgd _ _ hat) (hn (p + a + f) (by omega) h)
end
theorem fnd_spec {q : Nat} : ∀ {l : List Nat} {f : Nat}, fnd q l = some f → l[f]? = some q ∧ ∀ i, i < f → l[i]? ≠ some q
  | [], f, h => by cases h
  | c :: r, f, h => by
    unfold fnd at h
    by_cases hc : (c == q) = true
    · rw [if_pos hc] at h
      injection h with h
      subst h
      exact ⟨by simpa using hc, fun i hi => by omega⟩
    · rw [if_neg hc] at h
      rcases hr : fnd q r with _ | g
      · rw [hr] at h; cases h
      · rw [hr] at h
        injection h with h
        subst h
        obtain ⟨h1, h2⟩ := fnd_spec hr
        refine ⟨by simpa using h1, fun i hi => ?_⟩
        cases i with
        | zero => simpa using fun e => hc (by simpa using e)
        | succ i =>
          have hi' : i + 1 < g + 1 := hi
          simpa using h2 i (by omega)
theorem cnt_spec {f : Nat → Bool} : ∀ (l : List Nat), cnt f l ≤ l.length ∧ (∀ i, i < cnt f l → ∃ c, l[i]? = some c ∧ c < 128 ∧ f c = true) ∧ (l.drop (cnt f l) = [] ∨ ∃ c r, l.drop (cnt f l) = c :: r ∧ (c < 128 → f c = false))
  | [] => ⟨Nat.le_refl _, fun i hi => by simp [cnt] at hi, Or.inl rfl⟩
  | c :: r => by
    obtain ⟨h1, h2, h3⟩ := cnt_spec (f := f) r
    unfold cnt
    by_cases hc : (Nat.blt c 128 && f c) = true
    · rw [if_pos hc]
      have hc' := Bool.and_eq_true_iff.mp hc
      refine ⟨by simp only [List.length_cons]; omega, fun i hi => ?_, by simpa using h3⟩
      cases i with
      | zero => exact ⟨c, rfl, Nat.ble_eq.mp hc'.1, hc'.2⟩
      | succ i => obtain ⟨d, hd⟩ := h2 i (by omega); exact ⟨d, by simpa using hd.1, hd.2⟩
    · rw [if_neg hc]
      refine ⟨Nat.zero_le _, fun i hi => by omega, Or.inr ⟨c, r, rfl, fun hlt => ?_⟩⟩
      have hb : Nat.blt c 128 = true := Nat.ble_eq.mpr hlt
      rw [hb, Bool.true_and] at hc
      simpa using hc
section
variable {T : Str} {p : Nat} {l : List Nat}
theorem run_at (hT : T.cps.toList.drop p = l) {x : Str} {f : Nat → Bool} (hf : ∀ c, c < 128 → inS x c = f c) (a : Nat) : RunS x T (p + a) (p + a + cnt f (l.drop a)) := by
  refine ⟨Nat.le_add_right _ _, fun i h1 h2 => ?_⟩
  obtain ⟨c, hc, hlt, hfc⟩ := (cnt_spec (f := f) (l.drop a)).2.1 (i - (p + a)) (by omega)
  refine ⟨c, ?_, by rw [hf c hlt]; exact hfc⟩
  rw [← hc, List.getElem?_drop, ← at_drop hT]
  congr 1
  omega
theorem drop_cons {l r : List Nat} {c a : Nat} (h : l.drop a = c :: r) : l[a]? = some c ∧ a < l.length := by
  have h1 : (l.drop a)[0]? = some c := by rw [h]; rfl
  rw [List.getElem?_drop, Nat.add_zero] at h1
  exact ⟨h1, (List.getElem?_eq_some_iff.mp h1).1⟩
theorem stop_at (hT : T.cps.toList.drop p = l) (hp : p ≤ T.length) {x : Str} {f : Nat → Bool} (hf : ∀ c, c < 128 → inS x c = f c) {a : Nat} (ha : a ≤ l.length) (hlow : low ((l.drop a).drop (cnt f (l.drop a))) = true) : StopS x T (p + a + cnt f (l.drop a)) := by
  have hl := len_drop hT hp
  obtain ⟨h1, _, h3⟩ := cnt_spec (f := f) (l.drop a)
  rw [List.length_drop] at h1
  rcases h3 with h3 | ⟨c, r, h3, h4⟩
  · left
    have := congrArg List.length h3
    rw [List.length_drop, List.length_drop, List.length_nil] at this
    omega
  · right
    rw [h3] at hlow
    have hlt : c < 128 := Nat.ble_eq.mp hlow
    rw [List.drop_drop] at h3
    obtain ⟨h5, h6⟩ := drop_cons h3
    refine ⟨c, ?_, by rw [hf c hlt]; exact h4 hlt, hlt, by omega⟩
    rw [← h5, ← at_drop hT, Nat.add_assoc]
theorem behind_at (hT : T.cps.toList.drop p = l) (hp : p ≤ T.length) {a : Nat} (ha : a ≤ l.length) (hb : behind (l.drop a) = true) : BehindN T (p + a) := by
  have e : SL T ((p + a : Nat) : Int) (((p + a : Nat) : Int) + 1) = sc ((l.drop a).take 1) := by
    have := SL_at hT hp (a := a) (b := a + 1) (by omega) ha
    rw [show a + 1 - a = 1 by omega] at this
    exact this
  unfold BehindN
  rw [e]
  rcases hd : l.drop a with _ | ⟨c, r⟩
  · left; decide +kernel
  · rw [hd] at hb
    unfold behind at hb
    simp only [Bool.and_eq_true, Bool.not_eq_true'] at hb
    obtain ⟨⟨h1, h2⟩, h3⟩ := hb
    have hlt : c < 128 := Nat.ble_eq.mp h1
    right
    refine ⟨?_, ?_, c, rfl, by rw [nm_ok c hlt]; exact h2, hlt⟩
    · show ([c] == _) = false
      rw [show (Str.ofString "").cps.toList = [] by decide +kernel]; rfl
    · show ([c] == _) = false
      rw [show (Str.ofString ".").cps.toList = [46] by decide +kernel]
      simpa using h3
end
end
section
open PySem PySem.W PySem.Calls PyProof.Rows
theorem om1 : ∀ {x0 x1 : Nat}, (0 : Nat) < x1 → x0 < x0 + x1 := by omega
theorem om2 : ∀ {x0 x1 x2 : Nat}, x1 = x0 + (x2 + (1 : Nat)) → x0 + (1 : Nat) ≤ x1 := by omega
theorem om3 : ∀ {x0 x1 : Nat}, x0 + (x1 + (1 : Nat) + (2 : Nat)) = x0 + (x1 + (1 : Nat)) + (2 : Nat) := by omega
theorem om4 : ∀ {x0 x1 : Nat}, x0 + (x1 + (1 : Nat) + (1 : Nat)) = x0 + (x1 + (1 : Nat)) + (1 : Nat) := by omega
theorem om5 : ∀ {x0 x1 x2 x3 : Nat}, x1 = x0 + (x2 + (1 : Nat)) → x3 < x2 → x0 + (x3 + (2 : Nat)) ≤ x1 := by omega
theorem om6 : ∀ {x0 : Nat}, x0 + (1 : Nat) - (1 : Nat) = x0 := by omega
theorem om7 : ∀ {x0 : Nat}, (1 : Nat) ≤ x0 + (1 : Nat) := by omega
theorem om8 : ∀ {x0 x1 x2 x3 x4 : Nat}, x1 = x0 + (x2 + (1 : Nat)) → x3 + (2 : Nat) + x4 < x2 → x0 + (x3 + (2 : Nat) + x4 + (2 : Nat)) ≤ x1 := by omega
theorem om9 : ∀ {x0 x1 x2 : Nat}, x0 + (x1 + (1 : Nat)) + (2 : Nat) + x2 + (1 : Nat) = x0 + (x1 + (2 : Nat) + x2 + (2 : Nat)) := by omega
theorem om10 : ∀ {x0 x1 x2 : Nat}, x0 + (x1 + (2 : Nat) + x2 + (1 : Nat) + (2 : Nat)) = x0 + (x1 + (1 : Nat)) + (2 : Nat) + x2 + (2 : Nat) := by omega
theorem om11 : ∀ {x0 x1 x2 : Nat}, x0 + (x1 + (2 : Nat) + x2 + (1 : Nat) + (1 : Nat)) = x0 + (x1 + (1 : Nat)) + (2 : Nat) + x2 + (1 : Nat) := by omega
theorem om12 : ∀ {x0 x1 : Nat}, x0 + (x1 + (3 : Nat)) = x0 + (x1 + (1 : Nat)) + (2 : Nat) := by omega
theorem om13 : ∀ {x0 x1 x2 : Nat}, x0 + (x1 + (3 : Nat) + x2) = x0 + (x1 + (1 : Nat)) + (2 : Nat) + x2 := by omega
theorem om14 : ∀ {x0 x1 : Nat}, x0 + (3 : Nat) + x1 - (x0 + (3 : Nat)) = x1 := by omega
theorem om15 : ∀ {x0 x1 x2 : Nat}, x1 + (2 : Nat) + x2 < x0 → x1 + (3 : Nat) ≤ x0 + (1 : Nat) := by omega
theorem om16 : ∀ {x0 x1 : Nat}, x0 + (3 : Nat) ≤ x0 + (3 : Nat) + x1 := by omega
theorem om17 : ∀ {x0 : Nat}, x0 + (2 : Nat) - (1 : Nat) = x0 + (1 : Nat) := by omega
theorem om18 : ∀ {x0 : Nat}, (1 : Nat) ≤ x0 + (2 : Nat) := by omega
theorem om19 : ∀ {x0 : Nat}, x0 < (128 : Nat) → x0 < (1000 : Nat) := by omega
theorem om20 : ∀ {x0 x1 x2 : Nat}, x1 + (2 : Nat) + x2 < x0 → x1 + (2 : Nat) + x2 + (1 : Nat) ≤ x0 := by omega
theorem om21 : ∀ {x0 x1 x2 : Nat}, x2 < x0 - (x1 + (2 : Nat)) → x1 + (2 : Nat) + x2 < x0 := by omega
theorem om22 : ∀ {x0 x1 : Nat}, x1 < x0 → x1 + (1 : Nat) ≤ x0 := by omega
theorem om23 : ∀ {x0 x1 : Nat}, x0 + (1 : Nat) + x1 = x0 + (x1 + (1 : Nat)) := by omega
theorem om24 : ∀ {x0 : Nat}, x0 < (1000 : Nat) → (1000 : Nat) ≠ x0 := by omega
theorem om25 : ∀ {x0 : Nat}, x0 + (2 : Nat) - (x0 + (1 : Nat)) = (1 : Nat) := by omega
theorem om26 : ∀ {x0 : Nat}, x0 + (1 : Nat) ≤ x0 + (2 : Nat) := by omega
theorem om27 : ∀ {x0 x1 : Nat}, (0 : Nat) < x1 → x0 + (2 : Nat) < x0 + (2 : Nat) + x1 := by omega
theorem om28 : ∀ {x0 x1 : Nat}, x0 + (x1 + (2 : Nat)) = x0 + (2 : Nat) + x1 := by omega
theorem om29 : ∀ {x0 x1 x2 x3 : Nat}, x1 = x0 + (x2 + (1 : Nat) + (1 : Nat)) → x3 ≤ x2 → x0 + (x3 + (2 : Nat)) ≤ x1 := by omega
theorem om30 : ∀ {x0 : Nat}, (2 : Nat) + x0 - (2 : Nat) = x0 := by omega
theorem om31 : ∀ {x0 : Nat}, (2 : Nat) ≤ (2 : Nat) + x0 := by omega
theorem om32 : ∀ {x0 x1 : Nat}, x0 ≤ x1 → (2 : Nat) + x0 ≤ x1 + (1 : Nat) + (1 : Nat) := by omega
theorem om33 : ∀ {x0 x1 x2 x3 : Nat}, x1 = x0 + x2 → x3 ≤ x2 → x0 + x3 ≤ x1 := by omega
theorem om34 : ∀ {x0 : Nat}, (↑x0 : Int) + (1 : Int) + (1 : Int) = (↑x0 : Int) + (1 : Int) + (1 : Int) := by omega
theorem om35 : (1 : Nat) ≤ (2 : Nat) := by omega
theorem om36 : ∀ {x0 x1 : Nat}, x0 + (x1 + (1 : Nat)) = x0 + (1 : Nat) + x1 := by omega
theorem om37 : ∀ {x0 x1 x2 x3 : Nat}, x1 = x0 + (x2 + (1 : Nat)) → x3 ≤ x2 → x0 + (x3 + (1 : Nat)) ≤ x1 := by omega
theorem om38 : ∀ {x0 x1 x2 : Nat}, x2 < min x0 x1 → x2 < x0 := by omega
noncomputable abbrev pwAt (p : Nat) (g : Str × Str × WV) : PW := ⟨g.1, g.2.1, g.2.2, p⟩
theorem ofs_nil : (Str.ofString "").cps.toList = [] := by decide +kernel
theorem ofs_q : (Str.ofString "'").cps.toList = [39] := by decide +kernel
theorem ofs_b : (Str.ofString "[").cps.toList = [91] := by decide +kernel
theorem ofs_d : (Str.ofString "--").cps.toList = [45, 45] := by decide +kernel
theorem ofs_c : (Str.ofString "/*").cps.toList = [47, 42] := by decide +kernel
theorem ofs_0x : Str.ofString "0x" = sc [48, 120] := by decide +kernel
theorem ofs_0X : Str.ofString "0X" = sc [48, 88] := by decide +kernel
theorem sgn2_tw : SGN2 = [sc [60, 61], sc [62, 61], sc [60, 62], sc [33, 61], sc [61, 61], sc [124, 124], sc [60, 60], sc [62, 62]] := by decide +kernel
theorem sc_inj {a b : List Nat} (h : sc a = sc b) : a = b := by injection h with h; simpa using h
theorem sc_beq (a b : List Nat) : (sc a == sc b) = (a == b) := by
  by_cases h : a = b
  · subst h; simp
  · rw [beq_eq_false_iff_ne.mpr h, beq_eq_false_iff_ne.mpr fun e => h (sc_inj e)]
theorem pair_ok {x : List Nat} (h : twos.contains x = false) : eqS (sc x) (Str.ofString "--") false ∧ eqS (sc x) (Str.ofString "/*") false ∧ sgn2 (sc x) = false := by
  unfold twos at h
  simp only [List.contains_cons, List.contains_nil, Bool.or_false, Bool.or_eq_false_iff] at h
  refine ⟨?_, ?_, ?_⟩
  · show (x == _) = false
    rw [ofs_d]; exact h.1
  · show (x == _) = false
    rw [ofs_c]; exact h.2.1
  · unfold sgn2
    rw [sgn2_tw]
    simp only [List.any_cons, List.any_nil, Bool.or_false, Bool.or_eq_false_iff, sc_beq]
    simp only [Bool.eq_false_iff, ne_eq, beq_iff_eq] at h ⊢
    exact ⟨fun e => h.2.2.1 e.symm, fun e => h.2.2.2.1 e.symm, fun e => h.2.2.2.2.1 e.symm, fun e => h.2.2.2.2.2.1 e.symm, fun e => h.2.2.2.2.2.2.1 e.symm, fun e => h.2.2.2.2.2.2.2.1 e.symm, fun e => h.2.2.2.2.2.2.2.2.1 e.symm, fun e => h.2.2.2.2.2.2.2.2.2 e.symm⟩
theorem asc_of {x : Str} (h : ∀ c ∈ x.cps.toList, c < 128) : Txt.isascii x = true := by
  unfold Txt.isascii
  have : ∀ (i : Nat) (x_1 : i < x.cps.size), x.cps[i] < 128 := fun i hi => h _ (by simp)
  simpa using this
noncomputable def Sound (T : Str) (p : Nat) (r : TkR) : Prop := Tok1 T p (r.1.map (pwAt p)) (p + r.2) ∧ 0 < r.2 ∧ p + r.2 ≤ T.length
section
variable {T : Str} {p : Nat} {c : Nat} {r : List Nat} {t : TkR}
theorem snd_bare (hT : T.cps.toList.drop p = c :: r) (hp : p ≤ T.length) (hc : c < 128) (hb : isBl c = false) (hl : isLt c = true) (h : tkBare c r = some t) : Sound T p t := by
  unfold tkBare at h
  dsimp only at h
  split at h
  case isFalse => cases h
  rename_i hcond
  injection h with h
  subst h
  simp only [Bool.and_eq_true, Bool.not_eq_true'] at hcond
  obtain ⟨hlow, hx⟩ := hcond
  have hlen := len_drop hT hp
  have h0 := at_drop hT 0
  rw [Nat.add_zero] at h0
  obtain ⟨hn1, hn2, hn3⟩ := cnt_spec (f := isNm) r
  have hR := run_at hT nm_ok 1
  have hS := stop_at hT hp nm_ok (a := 1) (by simp) hlow
  rw [show (c :: r).drop 1 = r from rfl] at hR hS
  have hsl : SL T (p : Int) ((p + 1 + cnt isNm r : Nat) : Int) = sc (c :: r.take (cnt isNm r)) := by
    have := SL_at hT hp (a := 0) (b := 1 + cnt isNm r) (Nat.zero_le _) (Nat.zero_le _)
    rw [Nat.add_zero, ← Nat.add_assoc] at this
    rw [this, List.drop_zero, Nat.sub_zero, Nat.add_comm 1, List.take_succ_cons]
  have hasc : Txt.isascii (sc (c :: r.take (cnt isNm r))) = true := by
    refine asc_of fun d hd => ?_
    rcases List.mem_cons.mp hd with rfl | hd
    · exact hc
    · obtain ⟨i, hi, rfl⟩ := List.mem_iff_getElem.mp hd
      have hi' : i < cnt isNm r := by rw [List.length_take] at hi; (first | exact om38 hi | omega)
      obtain ⟨d, hd1, hd2, _⟩ := hn2 i hi'
      rw [List.getElem_take]
      have := (List.getElem?_eq_some_iff.mp hd1).2
      rw [this]; exact hd2
  rw [List.length_cons] at hlen
  refine ⟨?_, Nat.succ_pos _, by show p + (cnt isNm r + 1) ≤ _; (first | exact om37 hlen hn1 | omega)⟩
  dsimp only [Option.map_some, pwAt]
  rw [← hsl] at hasc ⊢
  rw [show p + (cnt isNm r + 1) = p + 1 + cnt isNm r by (first | exact om36 | omega)]
  cases hxx : (c == 120 || c == 88) with
  | false => exact Tok1.bare h0 (by rw [bl_ok c hc]; exact hb) (by rw [lt_ok c hc]; exact hl) hR hS (by rw [xx_ok c hc]; exact hxx) hasc
  | true =>
    rw [hxx, Bool.true_and] at hx
    refine Tok1.barex h0 (by rw [bl_ok c hc]; exact hb) (by rw [lt_ok c hc]; exact hl) hR hS (by rw [xx_ok c hc]; exact hxx) ?_ hasc
    have := SL_at hT hp (a := 1) (b := 2) (by (first | exact om35 | omega)) (by simp)
    rw [show (c :: r).drop 1 = r from rfl] at this
    show (_ == _) = false
    rw [show ((p : Int) + 1 + 1) = ((p + 2 : Nat) : Int) by push_cast; (first | exact om34 | omega), show ((p : Int) + 1) = ((p + 1 : Nat) : Int) by push_cast; rfl, this, ofs_q]
    rcases r with _ | ⟨d, r⟩
    · rfl
    · show ([d] == [39]) = false
      have : (d == 39) = false := hx
      simpa using this
theorem snd_n10 (hT : T.cps.toList.drop p = c :: r) (hp : p ≤ T.length) (hc : c < 128) (hb : isBl c = false) (hl : isLt c = false) (hf : isFg c = true) (hx : (c == 48 && (hd? r == 120 || hd? r == 88)) = false) (h : tkNum10 (c :: r) = some t) : Sound T p t := by
  unfold tkNum10 at h
  dsimp only at h
  split at h
  case h_2 => cases h
  rename_i i hlook
  split at h
  case isFalse => cases h
  rename_i hcond
  injection h with h
  subst h
  simp only [Bool.and_eq_true] at hcond
  obtain ⟨hlow, hbeh⟩ := hcond
  have hlen := len_drop hT hp
  have h0 := at_drop hT 0
  rw [Nat.add_zero] at h0
  obtain ⟨hn1, hn2, hn3⟩ := cnt_spec (f := isFg) (c :: r)
  obtain ⟨hg1, hg2, hg3, hg4⟩ := fig10 hlook
  have hpos : 0 < cnt isFg (c :: r) := by
    rcases Nat.eq_zero_or_pos (cnt isFg (c :: r)) with e | e
    · rw [e] at hg4; exact absurd rfl hg4
    · exact e
  have hR := run_at hT fg_ok 0
  have hS := stop_at hT hp fg_ok (a := 0) (Nat.zero_le _) hlow
  rw [List.drop_zero, Nat.add_zero] at hR hS
  have hB := behind_at hT hp hn1 hbeh
  have hsl : SL T (p : Int) ((p + cnt isFg (c :: r) : Nat) : Int) = sc ((c :: r).take (cnt isFg (c :: r))) := SL_at hT hp (a := 0) (Nat.zero_le _) (Nat.zero_le _)
  refine ⟨?_, hpos, by show p + cnt isFg (c :: r) ≤ _; (first | exact om33 hlen hn1 | omega)⟩
  dsimp only [Option.map_some, pwAt]
  refine Tok1.num10 h0 (by rw [bl_ok c hc]; exact hb) (by rw [lt_ok c hc]; exact hl) hc (by rw [fg_ok c hc]; exact hf) hR hS hB ?_ hg2 hg3 ?_ (by (first | exact om1 hpos | omega))
  · show FigS 10 (SL T (p : Int) ((p + cnt isFg (c :: r) : Nat) : Int)) i
    rw [hsl]; exact hg1
  · have : SL T (p : Int) ((p : Int) + 2) = sc ((c :: r).take 2) := SL_at hT hp (a := 0) (b := 2) (Nat.zero_le _) (Nat.zero_le _)
    rw [this, ofs_0x, ofs_0X]
    simp only [List.any_cons, List.any_nil, Bool.or_false, sc_beq]
    rcases r with _ | ⟨d, r⟩
    · show (([48, 120] == [c]) || ([48, 88] == [c])) = false
      simp
    · show (([48, 120] == [c, d]) || ([48, 88] == [c, d])) = false
      simp only [hd?] at hx
      simp only [Bool.and_eq_false_iff, Bool.or_eq_false_iff] at hx
      rcases hx with hx | ⟨hx, hy⟩
      · have hx : c ≠ 48 := by simpa using hx
        simp [Ne.symm hx]
      · have hx : d ≠ 120 := by simpa using hx
        have hy : d ≠ 88 := by simpa using hy
        simp [Ne.symm hx, Ne.symm hy]
theorem snd_n16 (hT : T.cps.toList.drop p = c :: r) (hp : p ≤ T.length) (hc : c < 128) (hb : isBl c = false) (hl : isLt c = false) (hf : isFg c = true) (hx : (c == 48 && (hd? r == 120 || hd? r == 88)) = true) (h : tkNum16 (r.drop 1) = some t) : Sound T p t := by
  unfold tkNum16 at h
  dsimp only at h
  split at h
  case h_2 => cases h
  rename_i i hlook
  split at h
  case isFalse => cases h
  rename_i hcond
  injection h with h
  subst h
  simp only [Bool.and_eq_true] at hcond
  obtain ⟨hlow, hbeh⟩ := hcond
  have hlen := len_drop hT hp
  have h0 := at_drop hT 0
  rw [Nat.add_zero] at h0
  rcases r with _ | ⟨d, r⟩
  · simp [hd?] at hx
  rw [show (d :: r).drop 1 = r from rfl] at *
  obtain ⟨hn1, hn2, hn3⟩ := cnt_spec (f := isHx) r
  obtain ⟨hg1, hg2, hg3, hg4⟩ := fig16 hlook
  have hpos : 0 < cnt isHx r := by
    rcases Nat.eq_zero_or_pos (cnt isHx r) with e | e
    · rw [e] at hg4; exact absurd rfl hg4
    · exact e
  have hR := run_at hT hx_ok 2
  have hS := stop_at hT hp hx_ok (a := 2) (by simp) hlow
  rw [show (c :: d :: r).drop 2 = r from rfl] at hR hS
  have hB := behind_at hT hp (a := 2 + cnt isHx r) (by simp only [List.length_cons]; (first | exact om32 hn1 | omega)) (by rw [← List.drop_drop]; exact hbeh)
  rw [← Nat.add_assoc] at hB
  have hsl : SL T ((p + 2 : Nat) : Int) ((p + 2 + cnt isHx r : Nat) : Int) = sc (r.take (cnt isHx r)) := by
    have := SL_at hT hp (a := 2) (b := 2 + cnt isHx r) (by (first | exact om31 | omega)) (by simp)
    rw [← Nat.add_assoc] at this
    rw [this, show 2 + cnt isHx r - 2 = cnt isHx r by (first | exact om30 | omega)]; rfl
  simp only [List.length_cons] at hlen
  refine ⟨?_, Nat.succ_pos _, by show p + (cnt isHx r + 2) ≤ _; (first | exact om29 hlen hn1 | omega)⟩
  dsimp only [Option.map_some, pwAt]
  rw [show p + (cnt isHx r + 2) = p + 2 + cnt isHx r by (first | exact om28 | omega)]
  refine Tok1.num16 h0 (by rw [bl_ok c hc]; exact hb) (by rw [lt_ok c hc]; exact hl) hc (by rw [fg_ok c hc]; exact hf) hR hS hB ?_ hg2 hg3 ?_ (by (first | exact om27 hpos | omega))
  · show FigS 16 (SL T ((p + 2 : Nat) : Int) ((p + 2 + cnt isHx r : Nat) : Int)) i
    rw [hsl]; exact hg1
  · have : SL T (p : Int) ((p : Int) + 2) = sc ((c :: d :: r).take 2) := SL_at hT hp (a := 0) (b := 2) (Nat.zero_le _) (Nat.zero_le _)
    rw [this, ofs_0x, ofs_0X]
    simp only [List.any_cons, List.any_nil, Bool.or_false, sc_beq]
    show (([48, 120] == [c, d]) || ([48, 88] == [c, d])) = true
    simp only [hd?, Bool.and_eq_true, Bool.or_eq_true, beq_iff_eq] at hx
    obtain ⟨rfl, rfl | rfl⟩ := hx <;> rfl
theorem snd_brk (hT : T.cps.toList.drop p = c :: r) (hp : p ≤ T.length) (hc : c < 128) (hb : isBl c = false) (hl : isLt c = false) (hf : isFg c = false) (hq : isQu c = true) (hx : (c == 91) = true) (h : tkBracket r = some t) : Sound T p t := by
  unfold tkBracket at h
  split at h
  case h_2 => cases h
  rename_i f hfnd
  injection h with h
  subst h
  obtain rfl : c = 91 := by simpa using hx
  have hlen := len_drop hT hp
  have h0 := at_drop hT 0
  rw [Nat.add_zero] at h0
  have hfn : fnd 93 (91 :: r) = some (f + 1) := by unfold fnd; rw [if_neg (by decide), hfnd]; rfl
  have hfa := find_at hT hp (a := 0) hfn (Nat.zero_le _) fnd_spec
  have hfl : f < r.length := (List.getElem?_eq_some_iff.mp (fnd_spec hfnd).1).1
  rw [Nat.add_zero] at hfa
  simp only [List.length_cons] at hlen
  refine ⟨?_, Nat.succ_pos _, by show p + (f + 2) ≤ _; (first | exact om5 hlen hfl | omega)⟩
  dsimp only [Option.map_some, pwAt]
  have hsl : SL T ((p : Int) + 1) ((p + (f + 1) : Nat) : Int) = sc (r.take f) := by
    have := SL_at hT hp (a := 1) (b := f + 1) (by (first | exact om7 | omega)) (by simp)
    rw [show f + 1 - 1 = f by (first | exact om6 | omega)] at this
    exact this
  rw [← hsl]
  exact Tok1.bracket (f := p + (f + 1)) h0 (by rw [bl_ok _ hc]; exact hb) (by rw [lt_ok _ hc]; exact hl) hc (by rw [fg_ok _ hc]; exact hf) (by rw [qu_ok _ hc]; exact hq) (by show ([91] == _) = true; rw [ofs_b]; rfl) (by rw [show Str.ofString "]" = ⟨#[93]⟩ by decide +kernel]; exact hfa)
theorem cast1 (a : Nat) : ((a + 1 : Nat) : Int) = (a : Int) + 1 := rfl
theorem cast2 (a : Nat) : ((a + 2 : Nat) : Int) = (a : Int) + 2 := rfl
theorem hd_at (hT : T.cps.toList.drop p = c :: r) (hp : p ≤ T.length) {f : Nat} (hf : f ≤ r.length) : SL T ((p + (f + 1) : Nat) : Int) ((p + (f + 2) : Nat) : Int) = sc ((r.drop f).take 1) := by
  have := SL_at hT hp (a := f + 1) (b := f + 2) (by (first | exact om26 | omega)) (by simpa using hf)
  rw [show f + 2 - (f + 1) = 1 by (first | exact om25 | omega)] at this
  exact this
theorem hd_eq (q : Nat) (hq : q < 1000) (l : List Nat) : (((sc (l.take 1)).cps.toList == (⟨#[q]⟩ : Str).cps.toList) = (hd? l == q)) := by
  rcases l with _ | ⟨d, l⟩
  · show false = ((1000 : Nat) == q)
    exact (beq_eq_false_iff_ne.mpr (by (first | exact om24 hq | omega))).symm
  · show ([d] == [q]) = (d == q)
    simp
set_option maxHeartbeats 400000 in
theorem snd_quo (hT : T.cps.toList.drop p = c :: r) (hp : p ≤ T.length) (hc : c < 128) (hb : isBl c = false) (hl : isLt c = false) (hf : isFg c = false) (hq : isQu c = true) (hx : (c == 91) = false) (h : tkQuote c r = some t) : Sound T p t := by
  unfold tkQuote at h
  split at h
  case h_2 => cases h
  rename_i f hfnd
  have hlen := len_drop hT hp
  have h0 := at_drop hT 0
  rw [Nat.add_zero] at h0
  simp only [List.length_cons] at hlen
  have hfl : f < r.length := (List.getElem?_eq_some_iff.mp (fnd_spec hfnd).1).1
  have hfa := find_at hT hp (a := 1) (q := c) (f := f) hfnd (by simp) fnd_spec
  have hbrk : eqS ⟨#[c]⟩ (Str.ofString "[") false := by
    show ([c] == _) = false
    rw [ofs_b]; simpa using hx
  have h39 : eqS ⟨#[c]⟩ (Str.ofString "'") (c == 39) := by
    show ([c] == _) = (c == 39)
    rw [ofs_q]; simp
  rw [show p + 1 + f = p + (f + 1) by (first | exact om23 | omega)] at hfa
  have hh := hd_at hT hp (f := f + 1) (by (first | exact om22 hfl | omega))
  have he := hd_eq c (by (first | exact om19 hc | omega)) (r.drop (f + 1))
  rw [← hh] at he
  split at h
  · rename_i hdbl
    split at h
    · cases h
    rename_i hn39
    split at h
    case h_2 => cases h
    rename_i g hg
    split at h
    · cases h
    rename_i hend
    injection h with h
    subst h
    have hgl : f + 2 + g < r.length := by
      have := (List.getElem?_eq_some_iff.mp (fnd_spec hg).1).1
      rw [List.length_drop] at this
      (first | exact om21 this | omega)
    have hga := find_at hT hp (a := f + 3) (q := c) (f := g) hg (by simp only [List.length_cons]; (first | exact om15 hgl | omega)) fnd_spec
    have hh2 := hd_at hT hp (f := f + 2 + g + 1) (by (first | exact om20 hgl | omega))
    have he2 := hd_eq c (by (first | exact om19 hc | omega)) (r.drop (f + 2 + g + 1))
    rw [← hh2] at he2
    have s1 : SL T ((p : Int) + 1) (((p + (f + 1) : Nat) : Int) + 1) = sc (r.take (f + 1)) := by
      have := SL_at hT hp (a := 1) (b := f + 2) (by (first | exact om18 | omega)) (by simp)
      rw [show f + 2 - 1 = f + 1 by (first | exact om17 | omega)] at this
      exact this
    have s2 : SL T (((p + (f + 1) : Nat) : Int) + 2) ((p + (f + 1) + 2 + g : Nat) : Int) = sc ((r.drop (f + 2)).take g) := by
      have := SL_at hT hp (a := f + 3) (b := f + 3 + g) (by (first | exact om16 | omega)) (by simp only [List.length_cons]; (first | exact om15 hgl | omega))
      rw [show f + 3 + g - (f + 3) = g by (first | exact om14 | omega), show p + (f + 3 + g) = p + (f + 1) + 2 + g by (first | exact om13 | omega), show p + (f + 3) = p + (f + 1) + 2 by (first | exact om12 | omega), cast2] at this
      exact this
    have hk1 : eqS ⟨#[c]⟩ (Str.ofString "'") false := by
      have : (c == 39) = false := by simpa using hn39
      rw [this] at h39; exact h39
    have hk2 : eqS (SL T (((p + (f + 1) : Nat) : Int) + 1) (((p + (f + 1) : Nat) : Int) + 2)) ⟨#[c]⟩ true := by
      rw [hdbl, show p + (f + 1 + 1) = p + (f + 1) + 1 by (first | exact om4 | omega), show p + (f + 1 + 2) = p + (f + 1) + 2 by (first | exact om3 | omega), cast1, cast2] at he
      exact he
    rw [show p + (f + 3) = p + (f + 1) + 2 by (first | exact om12 | omega), cast2] at hga
    have hk4 : eqS (SL T (((p + (f + 1) + 2 + g : Nat) : Int) + 1) (((p + (f + 1) + 2 + g : Nat) : Int) + 2)) ⟨#[c]⟩ false := by
      rw [show (hd? (r.drop (f + 2 + g + 1)) == c) = false by simpa using hend] at he2
      rw [show p + (f + 2 + g + 1 + 1) = p + (f + 1) + 2 + g + 1 by (first | exact om11 | omega), show p + (f + 2 + g + 1 + 2) = p + (f + 1) + 2 + g + 2 by (first | exact om10 | omega), cast1, cast2] at he2
      exact he2
    have key := Tok1.quo2 h0 (by rw [bl_ok _ hc]; exact hb) (by rw [lt_ok _ hc]; exact hl) hc (by rw [fg_ok _ hc]; exact hf) (by rw [qu_ok _ hc]; exact hq) hbrk hk1 hfa hk2 hga hk4
    rw [s1, s2, show p + (f + 1) + 2 + g + 1 = p + (f + 2 + g + 2) by (first | exact om9 | omega)] at key
    exact ⟨key, Nat.succ_pos _, by show p + (f + 2 + g + 2) ≤ _; (first | exact om8 hlen hgl | omega)⟩
  · rename_i hend
    injection h with h
    subst h
    have s1 : SL T ((p : Int) + 1) ((p + (f + 1) : Nat) : Int) = sc (r.take f) := by
      have := SL_at hT hp (a := 1) (b := f + 1) (by (first | exact om7 | omega)) (by simp)
      rw [show f + 1 - 1 = f by (first | exact om6 | omega)] at this
      exact this
    refine ⟨?_, Nat.succ_pos _, by show p + (f + 2) ≤ _; (first | exact om5 hlen hfl | omega)⟩
    dsimp only [Option.map_some, pwAt]
    rw [← s1]
    refine Tok1.quo1 (f := p + (f + 1)) h0 (by rw [bl_ok _ hc]; exact hb) (by rw [lt_ok _ hc]; exact hl) hc (by rw [fg_ok _ hc]; exact hf) (by rw [qu_ok _ hc]; exact hq) hbrk h39 hfa ?_
    rw [show (hd? (r.drop (f + 1)) == c) = false by simpa using hend, show p + (f + 1 + 1) = p + (f + 1) + 1 by (first | exact om4 | omega), show p + (f + 1 + 2) = p + (f + 1) + 2 by (first | exact om3 | omega), cast1, cast2] at he
    exact he
theorem tk_sound {l : List Nat} (hT : T.cps.toList.drop p = l) (hp : p ≤ T.length) (h : tk l = some t) : Sound T p t := by
  rcases l with _ | ⟨c, r⟩
  · cases h
  rw [tk] at h
  split at h
  · cases h
  rename_i hc
  have hc : c < 128 := by
    rcases Nat.lt_or_ge c 128 with h | h
    · exact h
    · exact absurd (Nat.ble_eq.mpr h) hc
  have hlen := len_drop hT hp
  have h0 := at_drop hT 0
  rw [Nat.add_zero] at h0
  simp only [List.length_cons] at hlen
  split at h
  · rename_i hb
    injection h with h
    subst h
    exact ⟨Tok1.blank h0 (by rw [bl_ok c hc]; exact hb), Nat.succ_pos _, by show p + 1 ≤ _; (first | exact om2 hlen | omega)⟩
  rename_i hb
  replace hb : isBl c = false := by simpa using hb
  split at h
  · rename_i hl
    exact snd_bare hT hp hc hb hl h
  rename_i hl
  replace hl : isLt c = false := by simpa using hl
  split at h
  · rename_i hf
    split at h
    · rename_i hx
      exact snd_n16 hT hp hc hb hl hf hx h
    · rename_i hx
      exact snd_n10 hT hp hc hb hl hf (by simpa using hx) h
  rename_i hf
  replace hf : isFg c = false := by simpa using hf
  split at h
  · rename_i hq
    split at h
    · rename_i hx
      exact snd_brk hT hp hc hb hl hf hq hx h
    · rename_i hx
      exact snd_quo hT hp hc hb hl hf hq (by simpa using hx) h
  rename_i hq
  replace hq : isQu c = false := by simpa using hq
  split at h
  · rename_i ho
    injection h with h
    subst h
    simp only [Bool.and_eq_true, Bool.not_eq_true'] at ho
    obtain ⟨h1, h2, h3⟩ := pair_ok ho.2
    have e : SL T (p : Int) ((p : Int) + 2) = sc ((c :: r).take 2) := SL_at hT hp (a := 0) (b := 2) (Nat.zero_le _) (Nat.zero_le _)
    rw [← e] at h1 h2 h3
    exact ⟨Tok1.mark h0 (by rw [bl_ok c hc]; exact hb) (by rw [lt_ok c hc]; exact hl) hc (by rw [fg_ok c hc]; exact hf) (by rw [qu_ok c hc]; exact hq) h1 h2 h3 (by rw [on_ok c hc]; exact ho.1), Nat.succ_pos _, by show p + 1 ≤ _; (first | exact om2 hlen | omega)⟩
  · cases h
end
/-- the suffix l, at place p, scans to the words ws -/
inductive ScanL : Nat → List Nat → List PW → Prop
  | fin {p : Nat} : ScanL p [] []
  | blank {p n : Nat} {l l' : List Nat} {ws : List PW} : tk l = some (none, n) → l.drop n = l' → ScanL (p + n) l' ws → ScanL p l ws
  | word {p n : Nat} {l l' : List Nat} {g : Str × Str × WV} {ws : List PW} : tk l = some (some g, n) → l.drop n = l' → ScanL (p + n) l' ws → ScanL p l (pwAt p g :: ws)
theorem scan_of {T : Str} {p : Nat} {l : List Nat} {ws : List PW} (h : ScanL p l ws) : T.cps.toList.drop p = l → p ≤ T.length → Scan T p ws := by
  induction h with
  | fin => intro hT hp; exact Scan.fin (by have := len_drop hT hp; simpa using this.symm)
  | blank ht hl _ ih =>
    intro hT hp
    obtain ⟨h1, h2, h3⟩ := tk_sound hT hp ht
    exact Scan.blank h1 (by dsimp only at h2 ⊢; (first | exact om1 h2 | omega)) h3 (ih (by rw [← hl, ← hT, List.drop_drop]) h3)
  | word ht hl _ ih =>
    intro hT hp
    obtain ⟨h1, h2, h3⟩ := tk_sound hT hp ht
    exact Scan.word h1 (by dsimp only at h2 ⊢; (first | exact om1 h2 | omega)) h3 (ih (by rw [← hl, ← hT, List.drop_drop]) h3)
theorem scan_all {T : Str} {ws : List PW} (h : ScanL 0 T.cps.toList ws) : Scan T 0 ws := scan_of h (List.drop_zero ..) (Nat.zero_le _)
end
section
open PySem PySem.W PySem.Calls PyProof.Rows
theorem dats_of_strs {news : List (Addr × Obj)} {l : List Value} {vs : List Str} (h : StrsAre l vs) : DatAll news l (vs.map Dat.str) := by
  induction h with
  | nil => exact DatAll.nil
  | cons x u _ ih => exact DatAll.cons (DatIn.str _ _) ih
section
variable {prog : Program} {w : World} {A : Around} {E : Value → Shared → Prop} {s : Shared} {h₀ : Heap} {L a b : Addr} {na nb : Nat} {news : List (Addr × Obj)} {items items' : Array Value} {vs us : List Str} {c : Bool} {Q : Value → Shared → Prop}
open Classical in
/-- two lists of texts -/
theorem eqstrs_ctx (N : News h₀ L s.heap news) (ma : (a, listOf items na) ∈ news) (mb : (b, listOf items' nb) ∈ news) (Da : StrsAre items.toList vs) (Db : StrsAre items'.toList us) (oa : ∀ v ∈ vs, PyData.strOk v = true) (ob : ∀ v ∈ us, PyData.strOk v = true) (hu : A.units + 64 < cLine) (hc : (vs == us) = c) (h : Q (.bool c) s) : wpAny (model prog w) A (compareOp .Eq (.ref a) (.ref b)) Q E s := by
  have hinj : (vs.map Dat.str = us.map Dat.str) ↔ vs = us := ⟨fun h => (List.map_inj_right (fun _ _ h => by injection h)).mp h, fun h => by rw [h]⟩
  refine kqd_eq (xs := items.toList) (ys := items'.toList) (ka := na) (kb := nb) N ma rfl (by simp [W.listOf]) (dats_of_strs Da) (fun _ h => h) mb rfl (by simp [W.listOf]) (dats_of_strs Db) (fun _ h => h) ?_ ?_ hu ?_
  · intro d hd; obtain ⟨v, hv, rfl⟩ := List.mem_map.mp hd; exact oa v hv
  · intro d hd; obtain ⟨v, hv, rfl⟩ := List.mem_map.mp hd; exact ob v hv
  · have e : decide (vs.map Dat.str = us.map Dat.str) = c := by
      subst hc
      by_cases he : vs = us
      · rw [decide_eq_true (hinj.mpr he)]; exact (beq_iff_eq.mpr he).symm
      · rw [decide_eq_false (fun x => he (hinj.mp x))]; exact (beq_eq_false_iff_ne.mpr he).symm
    rw [← e] at h
    exact h
end
/-- one size is read from place k: its text and the place behind -/
noncomputable def SizeT (ws : List PW) (k : Nat) (z : Str) (n : Nat) : Prop :=
  ∃ g f i, ws[k]? = some g ∧ ws[(sizeAt ws k).1]? = some f ∧ f.kind = Str.ofString "number" ∧ f.val = .int i ∧ 0 ≤ i ∧ i ≤ 9223372036854775808 ∧ z = (sizeAt ws k).2 ++ Str.ofString (toString i) ∧ n = (sizeAt ws k).1 + 1
noncomputable def NoSize (ws : List PW) (k : Nat) (pl : Int) : Prop :=
  ∃ g f, ws[k]? = some g ∧ ws[(sizeAt ws k).1]? = some f ∧ f.kind ≠ Str.ofString "number" ∧ pl = f.pl
inductive TOut where
  | nothing (k : Nat)
  | told (t : Str) (k : Nat)
  | err (msg : Str) (pl : Int)
noncomputable abbrev ot (x : String) : Str := Str.ofString x
/-- what read_type does behind the names vs, from place j -/
inductive TypeT (ws : List PW) (vs : List Str) (j : Nat) : TOut → Prop
  | none : (vs == []) = true → TypeT ws vs j (.nothing j)
  | plain {g : PW} : (vs == []) = false → ws[j]? = some g → isSgn g (ot "(") = false → TypeT ws vs j (.told (Txt.join (ot " ") vs) j)
  | noNum {g : PW} {pl : Int} : (vs == []) = false → ws[j]? = some g → isSgn g (ot "(") = true → NoSize ws (j + 1) pl → TypeT ws vs j (.err (ot "a number is missing") pl)
  | one {g c : PW} {z : Str} {n : Nat} : (vs == []) = false → ws[j]? = some g → isSgn g (ot "(") = true → SizeT ws (j + 1) z n → z.length ≤ 100 → ws[n]? = some c → isSgn c (ot ",") = false → isSgn c (ot ")") = true → TypeT ws vs j (.told (Txt.join (ot " ") vs ++ (ot "(") ++ z ++ (ot ")")) (n + 1))
  | noClose {g c : PW} {z : Str} {n : Nat} : (vs == []) = false → ws[j]? = some g → isSgn g (ot "(") = true → SizeT ws (j + 1) z n → z.length ≤ 100 → ws[n]? = some c → isSgn c (ot ",") = false → isSgn c (ot ")") = false → TypeT ws vs j (.err (ot ")" ++ ot " is missing") c.pl)
  | noNum2 {g c : PW} {z : Str} {n : Nat} {pl : Int} : (vs == []) = false → ws[j]? = some g → isSgn g (ot "(") = true → SizeT ws (j + 1) z n → z.length ≤ 100 → ws[n]? = some c → isSgn c (ot ",") = true → NoSize ws (n + 1) pl → TypeT ws vs j (.err (ot "a number is missing") pl)
  | two {g c d : PW} {z y : Str} {n n' : Nat} : (vs == []) = false → ws[j]? = some g → isSgn g (ot "(") = true → SizeT ws (j + 1) z n → z.length ≤ 100 → ws[n]? = some c → isSgn c (ot ",") = true → SizeT ws (n + 1) y n' → y.length ≤ 100 → ws[n']? = some d → isSgn d (ot ")") = true → TypeT ws vs j (.told (Txt.join (ot " ") vs ++ (ot "(") ++ z ++ (ot ",") ++ y ++ (ot ")")) (n' + 1))
  | noClose2 {g c d : PW} {z y : Str} {n n' : Nat} : (vs == []) = false → ws[j]? = some g → isSgn g (ot "(") = true → SizeT ws (j + 1) z n → z.length ≤ 100 → ws[n]? = some c → isSgn c (ot ",") = true → SizeT ws (n + 1) y n' → y.length ≤ 100 → ws[n']? = some d → isSgn d (ot ")") = false → TypeT ws vs j (.err (ot ")" ++ ot " is missing") d.pl)
/-- the same, one decision behind the other -/
inductive TE (ws : List PW) (t : Str) (n : Nat) : TOut → Prop
  | yes {d : PW} : ws[n]? = some d → isSgn d (ot ")") = true → TE ws t n (.told (t ++ ot ")") (n + 1))
  | no {d : PW} : ws[n]? = some d → isSgn d (ot ")") = false → TE ws t n (.err (ot ")" ++ ot " is missing") d.pl)
inductive TF (ws : List PW) (t : Str) (n : Nat) : TOut → Prop
  | noNum {pl : Int} : NoSize ws n pl → TF ws t n (.err (ot "a number is missing") pl)
  | num {y : Str} {n' : Nat} {o : TOut} : SizeT ws n y n' → y.length ≤ 100 → TE ws (t ++ ot "," ++ y) n' o → TF ws t n o
inductive TD (ws : List PW) (t : Str) (n : Nat) : TOut → Prop
  | noC {c : PW} {o : TOut} : ws[n]? = some c → isSgn c (ot ",") = false → TE ws t n o → TD ws t n o
  | com {c : PW} {o : TOut} : ws[n]? = some c → isSgn c (ot ",") = true → TF ws t (n + 1) o → TD ws t n o
inductive TC (ws : List PW) (t : Str) (n : Nat) : TOut → Prop
  | noNum {pl : Int} : NoSize ws n pl → TC ws t n (.err (ot "a number is missing") pl)
  | num {y : Str} {n' : Nat} {o : TOut} : SizeT ws n y n' → y.length ≤ 100 → TD ws (t ++ ot "(" ++ y) n' o → TC ws t n o
inductive TB (ws : List PW) (t : Str) (n : Nat) : TOut → Prop
  | plain {g : PW} : ws[n]? = some g → isSgn g (ot "(") = false → TB ws t n (.told t n)
  | opn {g : PW} {o : TOut} : ws[n]? = some g → isSgn g (ot "(") = true → TC ws t (n + 1) o → TB ws t n o
theorem typeT_split {ws : List PW} {vs : List Str} {j : Nat} {o : TOut} (h : TypeT ws vs j o) : ((vs == []) = true ∧ o = .nothing j) ∨ ((vs == []) = false ∧ TB ws (Txt.join (ot " ") vs) j o) := by
  cases h with
  | none h => exact .inl ⟨h, rfl⟩
  | plain h g1 g2 => exact .inr ⟨h, .plain g1 g2⟩
  | noNum h g1 g2 s => exact .inr ⟨h, .opn g1 g2 (.noNum s)⟩
  | one h g1 g2 s l c1 c2 c3 => exact .inr ⟨h, .opn g1 g2 (.num s l (.noC c1 c2 (.yes c1 c3)))⟩
  | noClose h g1 g2 s l c1 c2 c3 => exact .inr ⟨h, .opn g1 g2 (.num s l (.noC c1 c2 (.no c1 c3)))⟩
  | noNum2 h g1 g2 s l c1 c2 z => exact .inr ⟨h, .opn g1 g2 (.num s l (.com c1 c2 (.noNum z)))⟩
  | two h g1 g2 s l c1 c2 z l2 d1 d2 => exact .inr ⟨h, .opn g1 g2 (.num s l (.com c1 c2 (.num z l2 (.yes d1 d2))))⟩
  | noClose2 h g1 g2 s l c1 c2 z l2 d1 d2 => exact .inr ⟨h, .opn g1 g2 (.num s l (.com c1 c2 (.num z l2 (.no d1 d2))))⟩
theorem WordsIn.mono {P : Params} {led led' : List (Addr × Obj)} {items : Array Value} {ws : List PW} (W : WordsIn P led items ws) (hs : ∀ p ∈ led, p ∈ led') : WordsIn P led' items ws := by
  intro i q hq
  obtain ⟨x, dx, k1, k2, k3, k4, t1, t2, t3, t4, a, b, c⟩ := W i q hq
  exact ⟨x, dx, k1, k2, k3, k4, t1, t2, t3, t4, a, hs _ b, hs _ c⟩
section
variable {prog : Program} {w : World} {p : Program} {loose : List Str} {mean : ExcName → Option Value} {mg mb : Str → Option Value}
  {dp un : Nat} {gd : Option (List Code)} {cn : Str} {cs : Scope} {a : Addr} {ccd : Value} {cl : List (Str × Addr)} {outer : List Env} {A₀ : Around} {base h₀ : Heap} {L : Addr} {m : Str → Option Value} {s : Shared}
  {Q E : Value → Shared → Prop} {rest : List (Addr × Obj)}
theorem size_yes {st dst lw lh : Addr} {k1 k2 k3 k4 t1 t3 : Tok} {text z : Str} {k n nl : Nat} {items : Array Value} {ws : List PW}
  (B : Below A₀ base outer h₀) (F : Fr h₀ L s.heap m) (X : (Mine.K1 w.params).In h₀) (N : News h₀ L s.heap ((dst, streamD w.params k1 k2 k3 k4 t1 t3 text lw lh (k : Int)) :: rest)) (T : Top p loose mean mg mb h₀) (hk : cs.kind = .function)
  (hr : ∀ p ∈ rest, p.1 ≠ dst) (h1 : (st, instObj 413 dst) ∈ rest) (h2 : (lw, listOf items nl) ∈ rest) (W : WordsIn w.params rest items ws) (hkk : k < 10000) (hs : SizeT ws k z n)
  (hd : dp + 10 < recursionLimit)
  (hret : ∀ td t3' h' tk', Fr h₀ L h' m → News h₀ L h' ((dst, streamD w.params k1 k2 k3 k4 t1 t3' text lw lh (n : Int)) :: rest) → Q (.str z td) { s with heap := h', toks := tk' }) :
  wpAny (model prog w) (ktrTop dp un gd cn cs L a ccd cl outer) (call (.ref 35) [.ref st]) Q E s := by
  obtain ⟨g, f, i, hw, hf, hn, hv, hi0, hi1, rfl, rfl⟩ := hs
  refine size_walk B F X N T hk hr h1 h2 W hkk hw hf hd (fun _ => ⟨i, hv, hi0, hi1⟩) (fun i' td t3' h' tk' _ hv' F' N' => ?_) (fun _ _ _ _ _ _ _ _ _ hne => (hne hn).elim)
  obtain rfl : i = i' := by rw [hv] at hv'; injection hv'
  exact hret td t3' h' tk' F' N'
theorem size_no {st dst lw lh : Addr} {k1 k2 k3 k4 t1 t3 : Tok} {text : Str} {k nl : Nat} {pl : Int} {items : Array Value} {ws : List PW}
  (B : Below A₀ base outer h₀) (F : Fr h₀ L s.heap m) (X : (Mine.K1 w.params).In h₀) (N : News h₀ L s.heap ((dst, streamD w.params k1 k2 k3 k4 t1 t3 text lw lh (k : Int)) :: rest)) (T : Top p loose mean mg mb h₀) (hk : cs.kind = .function)
  (hr : ∀ p ∈ rest, p.1 ≠ dst) (h1 : (st, instObj 413 dst) ∈ rest) (h2 : (lw, listOf items nl) ∈ rest) (W : WordsIn w.params rest items ws) (hkk : k < 10000) (hs : NoSize ws k pl)
  (hd : dp + 10 < recursionLimit)
  (hexc : ∀ e dx g' h' tk' k1 k2 t1 t2, Fr h₀ L g' m → RaisedD base g' (envX cn cs L a ccd cl :: outer) e dx ((dx, perrD w.params k1 k2 t1 t2 (Str.ofString "a number is missing") pl) :: rest) h' → g'.UpToSlots h' → E (.ref e) { s with heap := h', toks := tk' }) :
  wpAny (model prog w) (ktrTop dp un gd cn cs L a ccd cl outer) (call (.ref 35) [.ref st]) Q E s := by
  obtain ⟨g, f, hw, hf, hn, rfl⟩ := hs
  exact size_walk B F X N T hk hr h1 h2 W hkk hw hf hd (fun h => (hn h).elim) (fun _ _ _ _ _ hn' => (hn hn').elim) (fun e dx g' h' tk' k1 k2 t1 t2 _ => hexc e dx g' h' tk' k1 k2 t1 t2)
theorem pos_lt {ws : List PW} {n : Nat} {c : PW} (h : ws[n]? = some c) (hl : ws.length ≤ 1001) : n < 10000 := by
  have := (List.getElem?_eq_some_iff.mp h).1
  omega
theorem pos_lt1 {ws : List PW} {n : Nat} {c : PW} (h : ws[n]? = some c) (hl : ws.length ≤ 1001) : n + 1 < 10000 := by
  have := (List.getElem?_eq_some_iff.mp h).1
  omega
theorem pos_lt2 {ws : List PW} {n : Nat} {c : PW} (h : ws[n]? = some c) (hl : ws.length ≤ 1001) : n < 100000 := by
  have := (List.getElem?_eq_some_iff.mp h).1
  omega
theorem at_nat {items : Array Value} {k : Nat} {v : Value} (h : items[k]? = some v) : items[((k : Nat) : Int).toNat]? = some v := by simpa using h
theorem news_d2 {h₀ h : Heap} {L : Addr} {a b : Addr × Obj} {tl : List (Addr × Obj)} (N : News h₀ L h (a :: b :: tl)) : News h₀ L h tl := fun p hp => N p (List.mem_cons_of_mem _ (List.mem_cons_of_mem _ hp))
end
end
section
variable {prog : Program} {w : World} {p : Program} {loose : List Str} {mean : ExcName → Option Value} {mg mb : Str → Option Value}
  {dp un : Nat} {gd : Option (List Code)} {cn : Str} {cs : Scope} {a : Addr} {ccd : Value} {cl : List (Str × Addr)} {outer : List Env} {A₀ : Around} {base h₀ : Heap} {L : Addr} {m : Str → Option Value} {s : Shared}
  {Q E : Value → Shared → Prop} {rest : List (Addr × Obj)}
theorem kw_Rd2 : True := by
  w_top off
  k_with_none
  k_with "~k_all" => (first | with_reducible assumption | exact ne_of_allLt (by with_reducible assumption) | assumption | exact ne_of_allLt (by assumption))
  k_with "~memr" => (first | (with_reducible exact List.mem_cons_self ..) | ((with_reducible refine List.mem_cons_of_mem _ ?_); walk_at "memr") | (with_reducible assumption) | ((with_reducible refine List.mem_append_left _ ?_); walk_at "memr") | ((with_reducible refine List.mem_append_right _ ?_); walk_at "memr"))
  k_with "~memd" => (first | exact List.mem_cons_self .. | (refine List.mem_cons_of_mem _ ?_; walk_at "memd") | (refine List.mem_append.mpr (Or.inl ?_); walk_at "memd") | (refine List.mem_append.mpr (Or.inr ?_); walk_at "memd") | assumption)
  k_with "~k_mem" => (first | walk_at "memr" | walk_at "memd")
  k_with "~k_in" => (first | with_reducible assumption | exact Frag.In.keeps (by with_reducible assumption) (Fr.keep (by with_reducible assumption)))
  k_with "~k_room" => (((try simp only [depth_under_make, depth_under_kw, depth_in1, depth_deeper, depth_caller]); (try dsimp only [ktrTop]); first | walk_at "room" | omega))
  k_with "~mul_fits" => (k_dflt (exact mulOk_fmod _ _))
  k_with "~exec Raise some none" => ((k_here; (with_reducible show wpAny _ _ (exec (Stmt.Raise (some (Expr.Call (Expr.Name (Str.ofString "ParseError") _) _ _ _)) none _) _) _ _ _); refine Raise_E rfl ?_))
  k_with "~RaiseBack" => ((k_dflt (refine' RaiseBack.intro ?k1_8 ?k2_8 ?k3_8 ?k4_8 ?k5_8 ?_; (case k1_8 => k_asm); (case k2_8 => k_asm); (case k3_8 => k_asm); (case k4_8 => k_is); (case k5_8 => k_mem))))
  k_with "~call ref" => ((k_here; (with_reducible show wpAny _ _ (call (Value.ref 91) _ _) _ _ _); k_dflt (refine' call_excE ?k1_9 ?k2_9 ?k3_9 ?k4_9 ?k5_9 ?k6_9 ?k7_9 ?k8_9 ?k9_9 ?_; (case k1_9 => k_asm); (case k2_9 => k_asm); (case k3_9 => k_asm); (case k4_9 => k_is); (case k5_9 => k_is); (case k6_9 => k_is); (case k7_9 => k_is); (case k8_9 => k_is); (case k9_9 => size_fits); k_whole; intro e' t' h' F' N' l1 l2 l3; (try k_lt l1); (try k_lt2 l2); (try k_lt l3); (try k_sweep); (try dsimp only); k_enter)))
  k_with "~instx" => (first | (refine' inst_exc ?N_10 ?h1_10 ?h2_10; (case N_10 => with_reducible assumption); (case h1_10 => walk_at "memr"); (case h2_10 => walk_at "memr")) | (refine' inst_exc2 ?N_10 ?h1_10 ?hc_10 ?hd_10 ?hn_10 ?h2_10; (case hc_10 => with_reducible assumption); (case hd_10 => with_reducible assumption); (case hn_10 => with_reducible assumption); (case N_10 => with_reducible assumption); (case h1_10 => walk_at "memr"); (case h2_10 => walk_at "memr")))
  k_with "~instn" => ((refine' InstAt.of_news ?N_11 ?h1_11 ?h2_11; (case N_11 => with_reducible assumption); (case h1_11 => walk_at "memr"); (case h2_11 => walk_at "memr")))
  k_with "~k_inst" => (first | walk_at "instn" | walk_at "instx")
  k_with "~setAttr ref" => ((k_here; k_dflt (first | (refine' setE_new ?k1_13 ?k2_13 ?k3_13 ?k4_13 ?k5_13 ?k6_13 ?k6b_13 ?k7_13 ?k8_13 ?k9_13 ?k10_13 ?_; (case k1_13 => k_asm); (case k2_13 => k_asm); (case k3_13 => k_asm); (case k4_13 => k_all); (case k5_13 => k_is); (case k6_13 => k_is); (case k6b_13 => exact rfl); (case k7_13 => k_is); (case k8_13 => k_is); (case k9_13 => k_put); (case k10_13 => exact Nat.le_of_ble_eq_true rfl); k_whole; intro h' dx' F' N' l1 l2; (try k_lt l1); (try k_lt2 l2); (try k_sweep); (try dsimp only)) | (refine' setE_old ?k1_13 ?k2_13 ?k3_13 ?k4_13 ?k5_13 ?k6_13 ?k7_13 ?k7b_13 ?k8_13 ?k9_13 ?k10_13 ?k11_13 ?k12_13 ?k13_13 ?_; (case k1_13 => k_asm); (case k2_13 => k_asm); (case k3_13 => k_asm); (case k4_13 => walk_at "instx"); (case k5_13 => exact rfl); (case k6_13 => k_is); (case k7_13 => k_is); (case k7b_13 => exact rfl); (case k8_13 => k_is); (case k9_13 => k_is); (case k10_13 => k_get); (case k11_13 => k_put); (case k12_13 => k_upd); (case k13_13 => exact Nat.le_of_ble_eq_true rfl); k_whole; intro h' F' N'; (try k_sweep); (try dsimp only)))))
  k_with "~getAttr ref" => ((k_here; k_dflt (refine' getE ?k1_14 ?k2_14 ?k3_14 ?k4_14 ?k5_14 ?k6_14 ?k7_14 ?k8_14 ?k9_14 ?k10_14 ?_; (case k1_14 => k_asm); (case k2_14 => k_asm); (case k3_14 => walk_at "instx"); (case k4_14 => k_is); (case k5_14 => k_is); (case k6_14 => k_is); (case k7_14 => k_is); (case k8_14 => k_is); (case k9_14 => k_get); (case k10_14 => k_handed); k_whole)))
  k_with "~getAttr ref" => ((k_here; k_dflt (refine' get_own ?k1_15 ?k2_15 ?k3_15 ?k4_15 ?k5_15 ?k6_15 ?k7_15 ?k8_15 ?k9_15 ?_; (case k1_15 => k_asm); (case k2_15 => k_asm); (case k3_15 => walk_at "instn"); (case k4_15 => k_is); (case k5_15 => k_is); (case k6_15 => k_is); (case k7_15 => k_is); (case k8_15 => k_get); (case k9_15 => k_handed); k_whole)))
  k_with "~leaving ref" => ((k_here; k_dflt (first | (refine' leave_raiseD2 ?k1_16 ?k2_16 ?k3_16 ?k4_16 ?_; (case k1_16 => k_asm); (case k2_16 => k_asm); (case k3_16 => k_asm); (case k4_16 => k_all); k_whole; intro h' R' U'; (try dsimp only at R' U' ⊢)) | (refine' leave_onD ?k1_16 ?k2_16 ?k3_16 ?k4_16 ?_; (case k3_16 => k_asm); (case k2_16 => k_asm); (case k1_16 => k_asm); (case k4_16 => k_asm); k_whole; intro h' R' U'; (try dsimp only at R' U' ⊢)))))
  k_with "~subscriptTail Attribute Name Attribute ref int" => ((k_here; (with_reducible show wpAny _ _ (subscriptTail _ _ (Value.ref _) (Value.int _ _)) _ _ _); k_dflt (refine' item_ctx ?k1_17 ?k2_17 ?k3_17 ?k4_17 ?k5_17 ?_ ?k6_17; (case k1_17 => k_asm); (case k2_17 => k_mem); (case k3_17 => omega); (case k4_17 => omega); (case k5_17 => k_asm); (case k6_17 => with_unfolding_all rfl); k_whole)))
  k_with "~compareOp Eq str str" => ((k_here; k_dflt (refine eq_ctx (by k_asm) ?_)))
  k_with "~compareOp NotEq str str" => ((k_here; k_dflt (refine ne_ctx (by k_asm) ?_)))
  k_with "~call type:str" => ((k_here; (with_reducible show wpAny _ _ (call (Value.type "str") [Value.int _ _]) _ _ _); k_dflt (refine PySem.P.str_of_int (log_small (by k_asm) (by k_asm)) ?_)))
  k_with "~compareOp NotIn str ref" => ((k_here; k_dflt (first | refine resv_notin (by k_asm) (by k_asm) (by k_asm) ?_ | refine joinw_notin (by k_asm) (by k_asm) (by k_asm) ?_)))
  k_with "~compareOp In str ref" => ((k_here; k_dflt (refine sgn2_in (by k_asm) (by k_asm) (by k_asm) ?_)))
  k_with "~size_fits" => (exact size1000 (by k_asm))
  k_with "~subscriptTail Attribute Name Attribute str int" => ((k_here; (with_reducible show wpAny _ _ (subscriptTail _ _ (Value.str _ _) (Value.int _ _)) _ _ _); k_dflt (refine item_sctx (by k_asm) (by k_asm) ?_)))
  k_with "~compareOp In str str" => ((k_here; k_dflt (refine in_sctx (by k_asm) ?_)))
  k_with "~call builtin:ord" => ((k_here; (with_reducible show wpAny _ _ (call (Value.builtin "ord") [Value.str ⟨#[_]⟩ _]) _ _ _); refine ord_sctx ?_))
  k_with "~TurnI" => ((k_dflt (refine' TurnI.intro ?k1_27 ?k2_27 ?k3_27 ?k4_27; (case k1_27 => k_asm); (case k2_27 => k_asm); (case k3_27 => exact rfl); (case k4_27 => (intro z hz; simp [hz])))))
  k_with "~call builtin:str.isascii" => ((k_here; refine isascii_ctx (by k_asm) ?_))
  k_with "~subscriptTail Name Name str int" => ((k_here; k_dflt (refine item_sctx (by k_asm) (by k_asm) ?_)))
  k_with "~subscriptTail Attribute Name Slice str ref" => ((walk_at "last subscriptTail"))
  k_with "~storeName" => ((k_here; k_dflt (refine' storeX_L ?F_31 ?N_31 ?_ ?a_31 ?b_31; (case F_31 => k_asm); (case N_31 => k_asm); (case a_31 => rfl); (case b_31 => rfl); k_whole; intro h' F' N'; (try k_sweep); (try dsimp only))))
  k_with "~execs cons" => ((k_here; k_fold))
  k_with "~room" => (first | exact room1 (by with_reducible assumption) (Nat.le_of_ble_eq_true rfl) | exact room0 (by with_reducible assumption) (Nat.le_of_ble_eq_true rfl) | exact room2 (by with_reducible assumption) (Nat.le_of_ble_eq_true rfl))
  k_with "~ltc" => (first | (with_reducible assumption) | (with_reducible exact And.left (by with_reducible assumption)) | (with_reducible exact And.left (And.right (by with_reducible assumption))) | (with_reducible exact And.left (And.right (And.right (by with_reducible assumption)))) | (with_reducible exact And.left (And.right (And.right (And.right (by with_reducible assumption))))) | (with_reducible exact And.left (And.right (And.right (And.right (And.right (by with_reducible assumption)))))) | (with_reducible exact And.left (And.right (And.right (And.right (And.right (And.right (by with_reducible assumption))))))) | (with_reducible exact And.left (And.right (And.right (And.right (And.right (And.right (And.right (by with_reducible assumption)))))))) | (with_reducible exact (And.right (by with_reducible assumption))) | (with_reducible exact (And.right (And.right (by with_reducible assumption)))))
  k_with "~k_ne" => (((refine neN ?_); (try dsimp only); first | (with_reducible exact Nat.ne_of_lt (by walk_at "ltc")) | (with_reducible exact Nat.ne_of_gt (by walk_at "ltc"))))
  k_with "~call ref" => ((k_here; (with_reducible show wpAny _ _ (call (Value.ref 35) _) _ _ _); k_dflt (first | (refine' size_yes ?k1_74 ?k2_74 ?k3_74 ?k4_74 ?k5_74 ?k6_74 ?k7_74 ?k8_74 ?k9_74 ?k10_74 ?k11_74 ?k12_74 ?k13_74 ?_; (case k1_74 => k_asm); (case k2_74 => k_asm); (case k3_74 => k_asm); (case k4_74 => k_asm); (case k5_74 => k_asm); (case k6_74 => first | exact rfl | assumption); (case k7_74 => k_all); (case k8_74 => k_mem); (case k9_74 => k_mem); (case k10_74 => assumption); (case k11_74 => walk_at "posl"); (case k12_74 => assumption); (case k13_74 => k_room); k_whole; intro tdZ t3' h' tk' F' N'; (try k_sweep); (try dsimp only)) | (refine' size_no ?k1_74 ?k2_74 ?k3_74 ?k4_74 ?k5_74 ?k6_74 ?k7_74 ?k8_74 ?k9_74 ?k10_74 ?k11_74 ?k12_74 ?k13_74 ?_; (case k1_74 => k_asm); (case k2_74 => k_asm); (case k3_74 => k_asm); (case k4_74 => k_asm); (case k5_74 => k_asm); (case k6_74 => first | exact rfl | assumption); (case k7_74 => k_all); (case k8_74 => k_mem); (case k9_74 => k_mem); (case k10_74 => assumption); (case k11_74 => walk_at "posl"); (case k12_74 => assumption); (case k13_74 => k_room); k_whole; intro eZ dxZ gZ hZ tkZ j1Z j2Z u1Z u2Z F' R' U'; (try k_sweep); (try dsimp only)))))
  k_with "~call ref" => ((k_here; (with_reducible show wpAny _ _ (call (Value.ref 382) [Value.ref _, Value.str _ _]) _ _ _); k_dflt (first | (refine' need_yes ?k1_75 ?k2_75 ?k3_75 ?k4_75 ?k5_75 ?k6_75 ?k7_75 ?k8_75 ?k9_75 ?k10_75 ?k11_75 ?k12_75 ?k13_75 ?k14_75 ?_; (case k1_75 => k_asm); (case k2_75 => k_asm); (case k3_75 => k_asm); (case k4_75 => k_asm); (case k5_75 => k_asm); (case k6_75 => first | exact rfl | assumption); (case k7_75 => k_all); (case k8_75 => k_mem); (case k9_75 => k_mem); (case k10_75 => assumption); (case k11_75 => walk_at "posl"); (case k12_75 => assumption); (case k14_75 => assumption); (case k13_75 => k_room); k_whole; intro t3' h' tk' F' N'; (try k_sweep); (try dsimp only)) | (refine' need_no ?k1_75 ?k2_75 ?k3_75 ?k4_75 ?k5_75 ?k6_75 ?k7_75 ?k8_75 ?k9_75 ?k10_75 ?k11_75 ?k12_75 ?k13_75 ?k14_75 ?k15_75 ?_; (case k1_75 => k_asm); (case k2_75 => k_asm); (case k3_75 => k_asm); (case k4_75 => k_asm); (case k5_75 => k_asm); (case k6_75 => first | exact rfl | assumption); (case k7_75 => k_all); (case k8_75 => k_mem); (case k9_75 => k_mem); (case k10_75 => assumption); (case k11_75 => walk_at "posl"); (case k12_75 => assumption); (case k14_75 => assumption); (case k13_75 => k_room); (case k15_75 => decide); k_whole; intro eZ dxZ gZ hZ tkZ j1Z j2Z u1Z u2Z F' R' U'; (try k_sweep); (try dsimp only)))))
  k_with "~posl" => (first | omega | exact pos_lt (by assumption) (by assumption) | exact pos_lt1 (by assumption) (by assumption) | exact pos_lt2 (by assumption) (by assumption))
  k_with "~call ref" => ((k_here; (with_reducible show wpAny _ _ (call (Value.ref 368) [Value.ref _, Value.str _ _]) _ _ _); k_dflt (first | (refine' take_yes ?k1_40 ?k2_40 ?k3_40 ?k4_40 ?k5_40 ?k6_40 ?k7_40 ?k8_40 ?k9_40 ?k10_40 ?k11_40 ?k12_40 ?k13_40 ?k14_40 ?_; (case k1_40 => k_asm); (case k2_40 => k_asm); (case k3_40 => k_asm); (case k4_40 => k_asm); (case k5_40 => k_asm); (case k6_40 => first | exact rfl | assumption); (case k7_40 => k_all); (case k8_40 => k_mem); (case k9_40 => k_mem); (case k10_40 => assumption); (case k11_40 => walk_at "posl"); (case k12_40 => assumption); (case k13_40 => assumption); (case k14_40 => k_room); k_whole; intro t3' h' tk' F' N'; (try k_sweep); (try dsimp only)) | (refine' take_no ?k1_40 ?k2_40 ?k3_40 ?k4_40 ?k5_40 ?k6_40 ?k7_40 ?k8_40 ?k9_40 ?k10_40 ?k11_40 ?k12_40 ?k13_40 ?k14_40 ?_; (case k1_40 => k_asm); (case k2_40 => k_asm); (case k3_40 => k_asm); (case k4_40 => k_asm); (case k5_40 => k_asm); (case k6_40 => first | exact rfl | assumption); (case k7_40 => k_all); (case k8_40 => k_mem); (case k9_40 => k_mem); (case k10_40 => assumption); (case k11_40 => walk_at "posl"); (case k12_40 => assumption); (case k13_40 => assumption); (case k14_40 => k_room); k_whole; intro h' tk' F' N'; (try k_sweep); (try dsimp only)))))
  k_with "~call ref" => ((k_here; (with_reducible show wpAny _ _ (call (Value.ref 144) _) _ _ _); k_dflt (refine' free_ok ?k1_36 ?k2_36 ?k3_36 ?k4_36 ?k5_36 ?k6_36 ?k7_36 ?k8_36 ?k9_36 ?k13_36 ?_; (case k7_36 => k_asm); (case k1_36 => k_asm); (case k2_36 => k_asm); (case k3_36 => k_asm); (case k4_36 => k_asm); (case k5_36 => k_asm); (case k6_36 => first | exact rfl | assumption); (case k8_36 => k_mem); (case k9_36 => k_mem); (case k13_36 => k_room); k_whole; intro h' tk' F' N'; (try k_sweep); (try dsimp only))))
  k_with "~call ref" => ((k_here; (with_reducible show wpAny _ _ (call (Value.ref 151) _) _ _ _); k_dflt (refine' plain_ok ?k1_41 ?k2_41 ?k3_41 ?k4_41 ?k5_41 ?k6_41 ?k7_41 ?k8_41 ?k9_41 ?k13_41 ?_; (case k7_41 => k_asm); (case k1_41 => k_asm); (case k2_41 => k_asm); (case k3_41 => k_asm); (case k4_41 => k_asm); (case k5_41 => k_asm); (case k6_41 => first | exact rfl | assumption); (case k8_41 => k_mem); (case k9_41 => k_mem); (case k13_41 => k_room); k_whole; intro h' tk' F' N'; (try k_sweep); (try dsimp only))))
  k_with "~call ref" => ((k_here; (with_reducible show wpAny _ _ (call (Value.ref 298) _) _ _ _); k_dflt (refine' here_ok ?k1_42 ?k2_42 ?k3_42 ?k4_42 ?k5_42 ?k6_42 ?k8_42 ?k7_42 ?k9_42 ?k11_42 ?k12_42 ?k13_42 ?_; (case k1_42 => k_asm); (case k2_42 => k_asm); (case k3_42 => k_asm); (case k4_42 => k_asm); (case k5_42 => k_asm); (case k6_42 => first | exact rfl | assumption); (case k8_42 => k_mem); (case k7_42 => k_mem); (case k9_42 => k_mem); (case k11_42 => walk_at "posl"); (case k12_42 => k_asm); (case k13_42 => k_room); k_whole; intro h' tk' F' N'; (try k_sweep); (try dsimp only))))
  k_with "~call ref" => ((k_here; (with_reducible show wpAny _ _ (call (Value.ref 312) _) _ _ _); k_dflt (refine' go_ok ?k1_43 ?k2_43 ?k3_43 ?k4_43 ?k5_43 ?k6_43 ?k7_43 ?k8_43 ?k9_43 ?k11_43 ?k12_43 ?k15_43 ?k16_43 ?k17_43 ?k13_43 ?_; (case k1_43 => k_asm); (case k2_43 => k_asm); (case k3_43 => k_asm); (case k4_43 => first | k_asm | exact news_sw0 (by k_asm)); (case k5_43 => k_asm); (case k6_43 => first | exact rfl | assumption); (case k7_43 => k_all); (case k8_43 => k_mem); (case k9_43 => k_mem); (case k11_43 => walk_at "posl"); (case k12_43 => k_asm); (case k15_43 => k_mem); (case k16_43 => k_mem); (case k17_43 => k_asm); (case k13_43 => k_room); k_whole; intro t3' h' tk' F' N'; (try k_sweep); (try dsimp only))))
  k_with "~call ref" => ((k_here; (with_reducible show wpAny _ _ (call (Value.ref 319) [Value.ref _, Value.str _ _]) _ _ _); k_dflt (refine' refuse_ok ?k1_44 ?k2_44 ?k3_44 ?k4_44 ?k5_44 ?k6_44 ?k8_44 ?k9_44 ?k11_44 ?k12_44 ?k15_44 ?k16_44 ?k13_44 ?_; (case k1_44 => k_asm); (case k2_44 => k_asm); (case k3_44 => k_asm); (case k4_44 => k_asm); (case k5_44 => k_asm); (case k6_44 => first | exact rfl | assumption); (case k8_44 => k_mem); (case k9_44 => k_mem); (case k11_44 => walk_at "posl"); (case k12_44 => k_asm); (case k15_44 => k_mem); (case k16_44 => k_mem); (case k13_44 => k_room); k_whole; intro eZ dxZ gZ hZ tkZ j1Z j2Z u1Z u2Z F' R' U'; (try k_sweep); (try dsimp only))))
  k_with "~exec While" => ((k_here; (with_reducible rename Plain _ _ _ _ => plX); (with_reducible rename WordsIn _ _ _ _ => wX); k_dflt (refine' while_plain plX ?h1_77 ?h2_77 ?h3_77 ?h4_77 ?h5_77 ?h6_77 ?h7_77; (case h1_77 => exact rfl); (case h2_77 => assumption); (case h3_77 => k_asm); (case h4_77 => k_asm); (case' h5_77 => (intro kP gP vP itemsP nlP t3P hP tkP hwP hyP hvP hkP hsP fP nP; obtain ⟨eP1, eP2, eP3⟩ := plain_yes hyP; obtain ⟨xP, dxP, j1P, j2P, j3P, j4P, u1P, u2P, u3P, u4P, hiP, hxP, hdxP⟩ := wX _ _ hwP; have hiP' := at_nat hiP; obtain ⟨gkP, gtP, gvP, gpP⟩ := gP; dsimp only at hvP eP1 eP2 eP3 hdxP; subst hvP; dsimp only [WV.v] at hdxP; have eK := str_of_beq eP1; subst eK; have qP2 : ((Str.ofString "name").cps.toList == (Str.ofString "end").cps.toList) = false := by decide +kernel; (try k_fold))); (case' h6_77 => (intro gP itemsP nlP t3P hP tkP hwP hyP hkP fP nP; obtain ⟨xP, dxP, j1P, j2P, j3P, j4P, u1P, u2P, u3P, u4P, hiP, hxP, hdxP⟩ := wX _ _ hwP; have hiP' := at_nat hiP; (try k_fold))); (case' h7_77 => (intro itemsP nlP t3P hP tkP stP siP slP fP nP; (with_reducible rename TypeT _ _ _ _ => tyX); rcases typeT_split tyX with ⟨vsX, oX⟩ | ⟨vsX, tyX⟩; (first | subst oX | skip); all_goals (try k_fold))))))
  k_with "~TurnP" => ((k_dflt (first | (refine' TurnP.push ?k1_78 ?k2_78; (case k1_78 => k_asm); (case k2_78 => first | k_asm | exact news_sw0 (by k_asm))) | (refine' TurnP.none ?k1_78 ?k2_78; (case k1_78 => k_asm); (case k2_78 => k_asm)))))
  k_with "~compareOp Eq ref ref" => ((k_here; (with_reducible show wpAny _ _ (compareOp CmpOp.Eq (Value.ref _) (Value.ref _)) _ _ _); k_dflt (refine' eqstrs_ctx ?k1_79 ?k2_79 ?k3_79 ?k4_79 ?k5_79 ?k6_79 ?k7_79 ?k8_79 ?k9_79 ?_; (case k1_79 => k_asm); (case k2_79 => k_mem); (case k3_79 => k_mem); (case k4_79 => assumption); (case k5_79 => exact StrsAre.nil); (case k6_79 => assumption); (case k7_79 => (intro v hv; cases hv)); (case k8_79 => first | ke_room | ((try simp only [units_under_make, units_in1, units_deeper, Around.mark_units, units_caller]); (try dsimp only [ktrTop]); omega)); (case k9_79 => assumption); k_whole)))
  k_with "~call builtin:str.join" => ((k_here; (with_reducible show wpAny _ _ (call (Value.builtin "str.join") [Value.str _ _, Value.ref _]) _ _ _); k_dflt (refine' join_listC ?k1_80 ?k2_80 ?k3_80 ?k4_80 ?_; (case k1_80 => exact News.isList (by k_asm) (by k_mem)); (case k2_80 => assumption); (case k3_80 => decide); (case k4_80 => assumption); k_whole; (with_reducible rename News _ _ _ _ => nJ; have nJ' := news_d2 nJ; clear nJ); intro _ _)))
  k_with "~call ref" => ((k_here; (with_reducible show wpAny _ _ (call (Value.ref 368) _) _ _ _); (first | (with_reducible rename TB _ _ _ _ => tbX) | (with_reducible rename TD _ _ _ _ => tbX)); k_dflt (cases tbX)))
  k_with "~call ref" => ((k_here; (with_reducible show wpAny _ _ (call (Value.ref 35) _) _ _ _); (first | (with_reducible rename TC _ _ _ _ => tbX) | (with_reducible rename TF _ _ _ _ => tbX)); k_dflt (cases tbX)))
  k_with "~call ref" => ((k_here; (with_reducible show wpAny _ _ (call (Value.ref 382) _) _ _ _); (with_reducible rename TE _ _ _ _ => tbX); k_dflt (cases tbX)))
  trivial
set_option maxHeartbeats 8000000 in
theorem type_ok {st dst lw lh : Addr} {k1 k2 k3 k4 t1 t3 : Tok} {text : Str} {k₀ j nl : Nat} {items : Array Value} {ws : List PW} {vs : List Str} {out : TOut}
  (B : Below A₀ base outer h₀) (F : Fr h₀ L s.heap m) (X : (Mine.K1 w.params).In h₀) (N : News h₀ L s.heap ((dst, streamD w.params k1 k2 k3 k4 t1 t3 text lw lh (k₀ : Int)) :: rest)) (T : Top p loose mean mg mb h₀) (hk : cs.kind = .function)
  (hr : ∀ p ∈ rest, p.1 ≠ dst) (h1 : (st, instObj 413 dst) ∈ rest) (h2 : (lw, listOf items nl) ∈ rest) (hW : WordsIn w.params rest items ws) (hlen : ws.length ≤ 1001)
  (hp : Plain ws k₀ vs j) (ho : ∀ v ∈ vs, PyData.strOk v = true) (hjl : (Txt.join (Str.ofString " ") vs).length ≤ 100000) (hjs : (vs.map (·.length)).sum + vs.length * 64 ≤ 16777216)
  (hO : TypeT ws vs j out) (hd : dp + 40 < recursionLimit) (hu : un + 200 < cLine)
  (hret0 : ∀ t3' h' tk' k, out = .nothing k → Fr h₀ L h' m → News h₀ L h' ((dst, streamD w.params k1 k2 k3 k4 t1 t3' text lw lh (k : Int)) :: rest) → Q .none { s with heap := h', toks := tk' })
  (hret1 : ∀ tv t3' h' tk' t k, out = .told t k → Fr h₀ L h' m → News h₀ L h' ((dst, streamD w.params k1 k2 k3 k4 t1 t3' text lw lh (k : Int)) :: rest) → Q (.str t tv) { s with heap := h', toks := tk' })
  (hexc : ∀ e dx g' h' tk' k1 k2 t1 t2 msg pl, out = .err msg pl → Fr h₀ L g' m → RaisedD base g' (envX cn cs L a ccd cl :: outer) e dx ((dx, perrD w.params k1 k2 t1 t2 msg pl) :: rest) h' → g'.UpToSlots h' → E (.ref e) { s with heap := h', toks := tk' }) :
  wpAny (model prog w) (ktrTop dp un gd cn cs L a ccd cl outer) (call (.ref 28) [.ref st]) Q E s := by
  refine wpAny_call ?_
  k_dflt ktr_enter
  k_steps
  all_goals first
    | exact hret0 _ _ _ _ rfl (by k_asm) (news_d2 (by k_asm))
    | exact hret1 _ _ _ _ _ _ rfl (by k_asm) (by k_asm)
    | exact hexc _ _ _ _ _ _ _ _ _ _ _ rfl (by assumption) (by assumption) (by assumption)
end
section
open PySem PySem.W PySem.Calls PyProof.Rows
inductive NEnd where
  | fin (vs : List Str) (j : Nat)
  | bad (pl : Int)
noncomputable def NEnd.cons (v : Str) : NEnd → NEnd
  | .fin vs j => .fin (v :: vs) j
  | .bad pl => .bad pl
/-- the names behind the first: from place k on -/
inductive NRun (ws : List PW) : Nat → NEnd → Prop
  | stop {k : Nat} {g : PW} : ws[k]? = some g → isSgn g (Str.ofString ",") = false → NRun ws k (.fin [] k)
  | bad {k : Nat} {g f : PW} : ws[k]? = some g → isSgn g (Str.ofString ",") = true → ws[k + 1]? = some f → isFree f = false → NRun ws k (.bad f.pl)
  | more {k : Nat} {g f : PW} {v : Str} {e : NEnd} : ws[k]? = some g → isSgn g (Str.ofString ",") = true → ws[k + 1]? = some f → isFree f = true → f.val = .str v → NRun ws (k + 2) e → NRun ws k (e.cons v)
inductive NOut where
  | names (vs : List Str) (j : Nat)
  | err (msg : Str) (pl : Int)
noncomputable def FinT (ws : List PW) (e : NEnd) (v : Str) (out : NOut) : Prop :=
  ∀ vs j, e = .fin vs j → ∃ c, ws[j]? = some c ∧ ((isSgn c (Str.ofString ")") = true ∧ out = .names (v :: vs) (j + 1)) ∨ (isSgn c (Str.ofString ")") = false ∧ out = .err (Str.ofString ")" ++ Str.ofString " is missing") c.pl))
inductive NamesT (ws : List PW) (k : Nat) : NOut → Prop
  | noOpen {g : PW} : ws[k]? = some g → isSgn g (Str.ofString "(") = false → NamesT ws k (.err (Str.ofString "(" ++ Str.ofString " is missing") g.pl)
  | noName {g f : PW} : ws[k]? = some g → isSgn g (Str.ofString "(") = true → ws[k + 1]? = some f → isFree f = false → NamesT ws k (.err (Str.ofString "a name is missing") f.pl)
  | run {g f : PW} {v : Str} {e : NEnd} {out : NOut} : ws[k]? = some g → isSgn g (Str.ofString "(") = true → ws[k + 1]? = some f → isFree f = true → f.val = .str v → NRun ws (k + 2) e →
      (∀ pl, e = .bad pl → out = .err (Str.ofString "a name is missing") pl) →
      FinT ws e v out → NamesT ws k out
theorem strs_app {l : List Value} {us : List Str} (h : StrsAre l us) (v : Str) (t : Tok) (vs : List Str) : StrsAre (l ++ [.str v t]) (us ++ [v]) := strs_push h v t
inductive NmI (P : Params) (m₀ : Str → Option Value) (k1 k2 k3 k4 t1 : Tok) (T : Str) (lw lh dst lp : Addr) (rest : List (Addr × Obj)) (ws : List PW) (pre : List Str) (e : NEnd) (n : Nat) (m : Str → Option Value) : List (Addr × Obj) → Prop
  | mk {k : Nat} {items : Array Value} {nl : Nat} {t3 : Tok} {ds : List Str} {e' : NEnd} : m = m₀ → n = 2000 - k → NRun ws k e' → (∀ pl, e' = .bad pl → e = .bad pl) → (∀ vs j, e' = .fin vs j → e = .fin (ds ++ vs) j) → StrsAre items.toList (pre ++ ds) → items.size ≤ k → NmI P m₀ k1 k2 k3 k4 t1 T lw lh dst lp rest ws pre e n m ((lp, listOf items nl) :: (dst, streamD P k1 k2 k3 k4 t1 t3 T lw lh (k : Int)) :: rest)
section
variable {prog : Program} {w : World} {A : Around} {E : Value → Shared → Prop} {Q : Flow → Shared → Prop} {s : Shared} {env : Env} {h₀ : Heap} {L : Addr}
theorem while_names {test : Expr} {body : List Stmt} {pos : Pos} {m₀ : Str → Option Value} {k1 k2 k3 k4 t1 t3 : Tok} {T : Str} {lw lh dst lp : Addr} {nl : Nat} {rest : List (Addr × Obj)} {ws : List PW} {P : Params} {k₀ : Nat} {e : NEnd} {its₀ : Array Value} {pre : List Str}
    (hp : NRun ws k₀ e) (hits : StrsAre its₀.toList pre) (hsz : its₀.size ≤ k₀) (hws : ws.length ≤ 1001)
    (F : Fr h₀ L s.heap m₀) (N : News h₀ L s.heap ((lp, listOf its₀ nl) :: (dst, streamD P k1 k2 k3 k4 t1 t3 T lw lh (k₀ : Int)) :: rest)) (hE : PassesOwn (model prog w) A env E)
    (turn : ∀ (k : Nat) (g f : PW) (v : Str) (items : Array Value) (nl : Nat) (t3 : Tok) h tk, ws[k]? = some g → isSgn g (Str.ofString ",") = true → ws[k + 1]? = some f → isFree f = true → f.val = .str v → k < 9000 → items.size ≤ 1000 →
      Fr h₀ L h m₀ → News h₀ L h ((lp, listOf items nl) :: (dst, streamD P k1 k2 k3 k4 t1 t3 T lw lh (k : Int)) :: rest) →
      wpAny (model prog w) A (isTrue test env (eval test env)) (fun b s₂ => WhlIf b (wpAny (model prog w) A (execs body env) (TurnP P h₀ L s m₀ k1 k2 k3 k4 t1 T lw lh dst lp items rest (some v) (k + 2)) E s₂) False) E { s with heap := h, toks := tk })
    (bad : ∀ (k : Nat) (g f : PW) (items : Array Value) (nl : Nat) (t3 : Tok) h tk, e = .bad f.pl → ws[k]? = some g → isSgn g (Str.ofString ",") = true → ws[k + 1]? = some f → isFree f = false → k < 9000 → items.size ≤ 1000 →
      Fr h₀ L h m₀ → News h₀ L h ((lp, listOf items nl) :: (dst, streamD P k1 k2 k3 k4 t1 t3 T lw lh (k : Int)) :: rest) →
      wpAny (model prog w) A (isTrue test env (eval test env)) (fun b s₂ => WhlIf b (wpAny (model prog w) A (execs body env) (fun _ _ => False) E s₂) False) E { s with heap := h, toks := tk })
    (last : ∀ (k : Nat) (g : PW) (items : Array Value) (nl : Nat) (t3 : Tok) h tk, ws[k]? = some g → isSgn g (Str.ofString ",") = false → k < 9000 →
      Fr h₀ L h m₀ → News h₀ L h ((lp, listOf items nl) :: (dst, streamD P k1 k2 k3 k4 t1 t3 T lw lh (k : Int)) :: rest) →
      wpAny (model prog w) A (isTrue test env (eval test env)) (fun b s₂ => WhlIf b False (TurnP P h₀ L s m₀ k1 k2 k3 k4 t1 T lw lh dst lp items rest .none k .next s₂)) E { s with heap := h, toks := tk })
    (done : ∀ (vs : List Str) (j : Nat) (items : Array Value) (nl : Nat) (t3 : Tok) h tk, e = .fin vs j → StrsAre items.toList (pre ++ vs) → items.size ≤ 1001 →
      Fr h₀ L h m₀ → News h₀ L h ((lp, listOf items nl) :: (dst, streamD P k1 k2 k3 k4 t1 t3 T lw lh (j : Int)) :: rest) → Q .next { s with heap := h, toks := tk }) :
    wpAny (model prog w) A (exec (.While test body [] pos) env) Q E s := by
  refine While_inv2 (NmI P m₀ k1 k2 k3 k4 t1 T lw lh dst lp rest ws pre e) F N (.mk (ds := []) rfl rfl hp (fun _ h => h) (fun _ _ h => h) (by rw [List.append_nil]; exact hits) hsz) ?_ hE
  intro n m₁ nx h tk F₁ N₁ inv
  cases inv with
  | @mk k items nl t3 ds e' hm hn hp' hb hf hI hik =>
  subst hm hn
  cases hp' with
  | @stop _ g hg hn =>
    have hj : k < ws.length := (List.getElem?_eq_some_iff.mp hg).1
    refine wpAny_mono (last k g items nl t3 h tk hg hn (by omega) F₁ N₁) (fun b s₂ q => ?_) fun _ _ x => x
    cases b with
    | false =>
      have q := (if_neg Bool.false_ne_true).mp q
      rw [if_neg Bool.false_ne_true]
      cases q with
      | @none0 _ h' tk' nl' t3' F' N' =>
        have := hf [] k rfl
        rw [List.append_nil] at this
        exact done ds k items nl' t3' h' tk' this hI (by omega) F' N'
    | true => exact q.elim
  | @bad _ g f hg hn hg2 hfr =>
    have hj : k < ws.length := (List.getElem?_eq_some_iff.mp hg).1
    refine wpAny_mono (bad k g f items nl t3 h tk (hb _ rfl) hg hn hg2 hfr (by omega) (by omega) F₁ N₁) (fun b s₂ q => ?_) fun _ _ x => x
    cases b with
    | false => exact q.elim
    | true =>
      rw [if_pos rfl]
      exact wpAny_mono q (fun f s₃ r => r.elim) fun _ _ x => x
  | @more _ g f v e'' hg hn hg2 hfr hv hp'' =>
    have hj : k < ws.length := (List.getElem?_eq_some_iff.mp hg).1
    refine wpAny_mono (turn k g f v items nl t3 h tk hg hn hg2 hfr hv (by omega) (by omega) F₁ N₁) (fun b s₂ q => ?_) fun _ _ x => x
    cases b with
    | false => exact q.elim
    | true =>
      rw [if_pos rfl]
      refine wpAny_mono q (fun f s₃ r => ?_) fun _ _ x => x
      cases r with
      | @push0 _ h' tk' nl' t3' tv _ F' N' =>
        exact ⟨h', tk', _, _, 2000 - (k + 2), rfl, F', N', by omega, .mk (ds := ds ++ [v]) rfl rfl hp'' (fun pl he => hb pl (by rw [he]; rfl)) (fun vs j he => by rw [List.append_assoc]; exact hf (v :: vs) j (by rw [he]; rfl)) (by rw [Array.toList_push, ← List.append_assoc]; exact strs_push hI v tv) (by rw [Array.size_push]; omega)⟩
end
theorem news_sw {h₀ h : Heap} {L : Addr} {a b : Addr × Obj} {tl : List (Addr × Obj)} (N : News h₀ L h (a :: b :: tl)) : News h₀ L h (b :: a :: tl) := fun p hp => N p (by
  rcases List.mem_cons.mp hp with rfl | hp
  · exact List.mem_cons_of_mem _ List.mem_cons_self
  · rcases List.mem_cons.mp hp with rfl | hp
    · exact List.mem_cons_self
    · exact List.mem_cons_of_mem _ (List.mem_cons_of_mem _ hp))
theorem all_cons2 {dst lp : Addr} {o : Obj} {q : Prop} {rest : List (Addr × Obj)} (h : dst < lp ∧ q) (hr : ∀ p ∈ rest, p.1 ≠ dst) : ∀ p ∈ (lp, o) :: rest, p.1 ≠ dst := by
  intro p hp
  rcases List.mem_cons.mp hp with rfl | hp
  · exact Nat.ne_of_gt h.1
  · exact hr p hp
theorem WordsIn.cons {P : Params} {led : List (Addr × Obj)} {a : Addr × Obj} {items : Array Value} {ws : List PW} (W : WordsIn P led items ws) : WordsIn P (a :: led) items ws := W.mono fun _ h => List.mem_cons_of_mem _ h
end
section
variable {prog : Program} {w : World} {p : Program} {loose : List Str} {mean : ExcName → Option Value} {mg mb : Str → Option Value}
  {dp un : Nat} {gd : Option (List Code)} {cn : Str} {cs : Scope} {a : Addr} {ccd : Value} {cl : List (Str × Addr)} {outer : List Env} {A₀ : Around} {base h₀ : Heap} {L : Addr} {m : Str → Option Value} {s : Shared}
  {Q E : Value → Shared → Prop} {rest : List (Addr × Obj)}
theorem kw_Rd4 : True := by
  w_top off
  k_with_none
  k_with "~k_all" => (first | with_reducible assumption | exact ne_of_allLt (by with_reducible assumption) | assumption | exact ne_of_allLt (by assumption))
  k_with "~memr" => (first | (with_reducible exact List.mem_cons_self ..) | ((with_reducible refine List.mem_cons_of_mem _ ?_); walk_at "memr") | (with_reducible assumption) | ((with_reducible refine List.mem_append_left _ ?_); walk_at "memr") | ((with_reducible refine List.mem_append_right _ ?_); walk_at "memr"))
  k_with "~memd" => (first | exact List.mem_cons_self .. | (refine List.mem_cons_of_mem _ ?_; walk_at "memd") | (refine List.mem_append.mpr (Or.inl ?_); walk_at "memd") | (refine List.mem_append.mpr (Or.inr ?_); walk_at "memd") | assumption)
  k_with "~k_mem" => (first | walk_at "memr" | walk_at "memd")
  k_with "~k_in" => (first | with_reducible assumption | exact Frag.In.keeps (by with_reducible assumption) (Fr.keep (by with_reducible assumption)))
  k_with "~k_room" => (((try simp only [depth_under_make, depth_under_kw, depth_in1, depth_deeper, depth_caller]); (try dsimp only [ktrTop]); first | walk_at "room" | omega))
  k_with "~mul_fits" => (k_dflt (exact mulOk_fmod _ _))
  k_with "~exec Raise some none" => ((k_here; (with_reducible show wpAny _ _ (exec (Stmt.Raise (some (Expr.Call (Expr.Name (Str.ofString "ParseError") _) _ _ _)) none _) _) _ _ _); refine Raise_E rfl ?_))
  k_with "~RaiseBack" => ((k_dflt (refine' RaiseBack.intro ?k1_8 ?k2_8 ?k3_8 ?k4_8 ?k5_8 ?_; (case k1_8 => k_asm); (case k2_8 => k_asm); (case k3_8 => k_asm); (case k4_8 => k_is); (case k5_8 => k_mem))))
  k_with "~call ref" => ((k_here; (with_reducible show wpAny _ _ (call (Value.ref 91) _ _) _ _ _); k_dflt (refine' call_excE ?k1_9 ?k2_9 ?k3_9 ?k4_9 ?k5_9 ?k6_9 ?k7_9 ?k8_9 ?k9_9 ?_; (case k1_9 => k_asm); (case k2_9 => k_asm); (case k3_9 => k_asm); (case k4_9 => k_is); (case k5_9 => k_is); (case k6_9 => k_is); (case k7_9 => k_is); (case k8_9 => k_is); (case k9_9 => size_fits); k_whole; intro e' t' h' F' N' l1 l2 l3; (try k_lt l1); (try k_lt2 l2); (try k_lt l3); (try k_sweep); (try dsimp only); k_enter)))
  k_with "~instx" => (first | (refine' inst_exc ?N_10 ?h1_10 ?h2_10; (case N_10 => with_reducible assumption); (case h1_10 => walk_at "memr"); (case h2_10 => walk_at "memr")) | (refine' inst_exc2 ?N_10 ?h1_10 ?hc_10 ?hd_10 ?hn_10 ?h2_10; (case hc_10 => with_reducible assumption); (case hd_10 => with_reducible assumption); (case hn_10 => with_reducible assumption); (case N_10 => with_reducible assumption); (case h1_10 => walk_at "memr"); (case h2_10 => walk_at "memr")))
  k_with "~instn" => ((refine' InstAt.of_news ?N_11 ?h1_11 ?h2_11; (case N_11 => with_reducible assumption); (case h1_11 => walk_at "memr"); (case h2_11 => walk_at "memr")))
  k_with "~k_inst" => (first | walk_at "instn" | walk_at "instx")
  k_with "~setAttr ref" => ((k_here; k_dflt (first | (refine' setE_new ?k1_13 ?k2_13 ?k3_13 ?k4_13 ?k5_13 ?k6_13 ?k6b_13 ?k7_13 ?k8_13 ?k9_13 ?k10_13 ?_; (case k1_13 => k_asm); (case k2_13 => k_asm); (case k3_13 => k_asm); (case k4_13 => k_all); (case k5_13 => k_is); (case k6_13 => k_is); (case k6b_13 => exact rfl); (case k7_13 => k_is); (case k8_13 => k_is); (case k9_13 => k_put); (case k10_13 => exact Nat.le_of_ble_eq_true rfl); k_whole; intro h' dx' F' N' l1 l2; (try k_lt l1); (try k_lt2 l2); (try k_sweep); (try dsimp only)) | (refine' setE_old ?k1_13 ?k2_13 ?k3_13 ?k4_13 ?k5_13 ?k6_13 ?k7_13 ?k7b_13 ?k8_13 ?k9_13 ?k10_13 ?k11_13 ?k12_13 ?k13_13 ?_; (case k1_13 => k_asm); (case k2_13 => k_asm); (case k3_13 => k_asm); (case k4_13 => walk_at "instx"); (case k5_13 => exact rfl); (case k6_13 => k_is); (case k7_13 => k_is); (case k7b_13 => exact rfl); (case k8_13 => k_is); (case k9_13 => k_is); (case k10_13 => k_get); (case k11_13 => k_put); (case k12_13 => k_upd); (case k13_13 => exact Nat.le_of_ble_eq_true rfl); k_whole; intro h' F' N'; (try k_sweep); (try dsimp only)))))
  k_with "~getAttr ref" => ((k_here; k_dflt (refine' getE ?k1_14 ?k2_14 ?k3_14 ?k4_14 ?k5_14 ?k6_14 ?k7_14 ?k8_14 ?k9_14 ?k10_14 ?_; (case k1_14 => k_asm); (case k2_14 => k_asm); (case k3_14 => walk_at "instx"); (case k4_14 => k_is); (case k5_14 => k_is); (case k6_14 => k_is); (case k7_14 => k_is); (case k8_14 => k_is); (case k9_14 => k_get); (case k10_14 => k_handed); k_whole)))
  k_with "~getAttr ref" => ((k_here; k_dflt (refine' get_own ?k1_15 ?k2_15 ?k3_15 ?k4_15 ?k5_15 ?k6_15 ?k7_15 ?k8_15 ?k9_15 ?_; (case k1_15 => k_asm); (case k2_15 => k_asm); (case k3_15 => walk_at "instn"); (case k4_15 => k_is); (case k5_15 => k_is); (case k6_15 => k_is); (case k7_15 => k_is); (case k8_15 => k_get); (case k9_15 => k_handed); k_whole)))
  k_with "~leaving ref" => ((k_here; k_dflt (first | (refine' leave_raiseD2 ?k1_16 ?k2_16 ?k3_16 ?k4_16 ?_; (case k1_16 => k_asm); (case k2_16 => k_asm); (case k3_16 => k_asm); (case k4_16 => k_all); k_whole; intro h' R' U'; (try dsimp only at R' U' ⊢)) | (refine' leave_onD ?k1_16 ?k2_16 ?k3_16 ?k4_16 ?_; (case k3_16 => k_asm); (case k2_16 => k_asm); (case k1_16 => k_asm); (case k4_16 => k_asm); k_whole; intro h' R' U'; (try dsimp only at R' U' ⊢)))))
  k_with "~subscriptTail Attribute Name Attribute ref int" => ((k_here; (with_reducible show wpAny _ _ (subscriptTail _ _ (Value.ref _) (Value.int _ _)) _ _ _); k_dflt (refine' item_ctx ?k1_17 ?k2_17 ?k3_17 ?k4_17 ?k5_17 ?_ ?k6_17; (case k1_17 => k_asm); (case k2_17 => k_mem); (case k3_17 => omega); (case k4_17 => omega); (case k5_17 => k_asm); (case k6_17 => with_unfolding_all rfl); k_whole)))
  k_with "~compareOp Eq str str" => ((k_here; k_dflt (refine eq_ctx (by k_asm) ?_)))
  k_with "~compareOp NotEq str str" => ((k_here; k_dflt (refine ne_ctx (by k_asm) ?_)))
  k_with "~call type:str" => ((k_here; (with_reducible show wpAny _ _ (call (Value.type "str") [Value.int _ _]) _ _ _); k_dflt (refine PySem.P.str_of_int (log_small (by k_asm) (by k_asm)) ?_)))
  k_with "~compareOp NotIn str ref" => ((k_here; k_dflt (first | refine resv_notin (by k_asm) (by k_asm) (by k_asm) ?_ | refine joinw_notin (by k_asm) (by k_asm) (by k_asm) ?_)))
  k_with "~compareOp In str ref" => ((k_here; k_dflt (refine sgn2_in (by k_asm) (by k_asm) (by k_asm) ?_)))
  k_with "~size_fits" => (exact size1000 (by k_asm))
  k_with "~subscriptTail Attribute Name Attribute str int" => ((k_here; (with_reducible show wpAny _ _ (subscriptTail _ _ (Value.str _ _) (Value.int _ _)) _ _ _); k_dflt (refine item_sctx (by k_asm) (by k_asm) ?_)))
  k_with "~compareOp In str str" => ((k_here; k_dflt (refine in_sctx (by k_asm) ?_)))
  k_with "~call builtin:ord" => ((k_here; (with_reducible show wpAny _ _ (call (Value.builtin "ord") [Value.str ⟨#[_]⟩ _]) _ _ _); refine ord_sctx ?_))
  k_with "~TurnI" => ((k_dflt (refine' TurnI.intro ?k1_27 ?k2_27 ?k3_27 ?k4_27; (case k1_27 => k_asm); (case k2_27 => k_asm); (case k3_27 => exact rfl); (case k4_27 => (intro z hz; simp [hz])))))
  k_with "~call builtin:str.isascii" => ((k_here; refine isascii_ctx (by k_asm) ?_))
  k_with "~subscriptTail Name Name str int" => ((k_here; k_dflt (refine item_sctx (by k_asm) (by k_asm) ?_)))
  k_with "~subscriptTail Attribute Name Slice str ref" => ((walk_at "last subscriptTail"))
  k_with "~storeName" => ((k_here; k_dflt (refine' storeX_L ?F_31 ?N_31 ?_ ?a_31 ?b_31; (case F_31 => k_asm); (case N_31 => k_asm); (case a_31 => rfl); (case b_31 => rfl); k_whole; intro h' F' N'; (try k_sweep); (try dsimp only))))
  k_with "~execs cons" => ((k_here; k_fold))
  k_with "~room" => (first | exact room1 (by with_reducible assumption) (Nat.le_of_ble_eq_true rfl) | exact room0 (by with_reducible assumption) (Nat.le_of_ble_eq_true rfl) | exact room2 (by with_reducible assumption) (Nat.le_of_ble_eq_true rfl))
  k_with "~ltc" => (first | (with_reducible assumption) | (with_reducible exact And.left (by with_reducible assumption)) | (with_reducible exact And.left (And.right (by with_reducible assumption))) | (with_reducible exact And.left (And.right (And.right (by with_reducible assumption)))) | (with_reducible exact And.left (And.right (And.right (And.right (by with_reducible assumption))))) | (with_reducible exact And.left (And.right (And.right (And.right (And.right (by with_reducible assumption)))))) | (with_reducible exact And.left (And.right (And.right (And.right (And.right (And.right (by with_reducible assumption))))))) | (with_reducible exact And.left (And.right (And.right (And.right (And.right (And.right (And.right (by with_reducible assumption)))))))) | (with_reducible exact (And.right (by with_reducible assumption))) | (with_reducible exact (And.right (And.right (by with_reducible assumption)))))
  k_with "~k_ne" => (((refine neN ?_); (try dsimp only); first | (with_reducible exact Nat.ne_of_lt (by walk_at "ltc")) | (with_reducible exact Nat.ne_of_gt (by walk_at "ltc"))))
  k_with "~exec While" => ((k_here; (with_reducible rename NRun _ _ _ => nrX); (with_reducible rename WordsIn _ _ _ _ => wX); k_dflt (refine' while_names nrX ?h1_84 ?h1b_84 ?h2_84 ?h3_84 ?h4_84 ?h4b_84 ?h5_84 ?h6_84 ?h7_84 ?h8_84; (case h2_84 => assumption); (case h3_84 => k_asm); (case h4_84 => first | k_asm | exact news_sw (by k_asm)); (case h1_84 => exact StrsAre.cons _ _ StrsAre.nil); (case h1b_84 => (show 1 ≤ _; omega)); (case h4b_84 => passes_own); (case' h5_84 => (intro kP gP fP vP itemsP nlP t3P hP tkP hwP hyP hwP2 hfP hvP hkP hsP frP nP; (try k_fold))); (case' h6_84 => (intro kP gP fP itemsP nlP t3P hP tkP heP hwP hyP hwP2 hfP hkP hsP frP nP; (try k_fold))); (case' h7_84 => (intro kP gP itemsP nlP t3P hP tkP hwP hyP hkP frP nP; (try k_fold))); (case' h8_84 => (intro vsP jP itemsP nlP t3P hP tkP heP stP slP frP nP; (with_reducible rename FinT _ _ _ _ => fnX); obtain ⟨cP, hcP, hcO⟩ := fnX _ _ heP; rcases hcO with ⟨c1, c2⟩ | ⟨c1, c2⟩; all_goals (try k_fold))))))
  k_with "~TurnP" => ((k_dflt (first | (refine' TurnP.push ?k1_85 ?k2_85; (case k1_85 => k_asm); (case k2_85 => first | k_asm | exact news_sw (by k_asm))) | (refine' TurnP.none ?k1_85 ?k2_85; (case k1_85 => k_asm); (case k2_85 => first | k_asm | exact news_sw (by k_asm))))))
  k_with "~call ref" => ((k_here; (with_reducible show wpAny _ _ (call (Value.ref 382) [Value.ref _, Value.str _ _]) _ _ _); k_dflt (first | (refine' need_yes ?k1_86 ?k2_86 ?k3_86 ?k4_86 ?k5_86 ?k6_86 ?k7_86 ?k8_86 ?k9_86 ?k10_86 ?k11_86 ?k12_86 ?k13_86 ?k14_86 ?_; (case k1_86 => k_asm); (case k2_86 => k_asm); (case k3_86 => k_asm); (case k4_86 => first | k_asm | exact news_sw (by k_asm)); (case k5_86 => k_asm); (case k6_86 => first | exact rfl | assumption); (case k7_86 => first | k_all | exact all_cons2 (by assumption) (by assumption)); (case k8_86 => k_mem); (case k9_86 => k_mem); (case k10_86 => first | assumption | exact WordsIn.cons (by assumption)); (case k11_86 => first | omega | exact pos_lt (by assumption) (by assumption) | exact pos_lt1 (by assumption) (by assumption) | exact pos_lt2 (by assumption) (by assumption)); (case k12_86 => assumption); (case k14_86 => assumption); (case k13_86 => k_room); k_whole; intro t3' h' tk' F' N'; (try k_sweep); (try dsimp only)) | (refine' need_no ?k1_86 ?k2_86 ?k3_86 ?k4_86 ?k5_86 ?k6_86 ?k7_86 ?k8_86 ?k9_86 ?k10_86 ?k11_86 ?k12_86 ?k13_86 ?k14_86 ?k15_86 ?_; (case k1_86 => k_asm); (case k2_86 => k_asm); (case k3_86 => k_asm); (case k4_86 => first | k_asm | exact news_sw (by k_asm)); (case k5_86 => k_asm); (case k6_86 => first | exact rfl | assumption); (case k7_86 => first | k_all | exact all_cons2 (by assumption) (by assumption)); (case k8_86 => k_mem); (case k9_86 => k_mem); (case k10_86 => first | assumption | exact WordsIn.cons (by assumption)); (case k11_86 => first | omega | exact pos_lt (by assumption) (by assumption) | exact pos_lt1 (by assumption) (by assumption) | exact pos_lt2 (by assumption) (by assumption)); (case k12_86 => assumption); (case k14_86 => assumption); (case k13_86 => k_room); (case k15_86 => decide); k_whole; intro eZ dxZ gZ hZ tkZ j1Z j2Z u1Z u2Z F' R' U'; (try k_sweep); (try dsimp only)))))
  k_with "~call ref" => ((k_here; (with_reducible show wpAny _ _ (call (Value.ref 389) _) _ _ _); k_dflt (first | (refine' name_yes ?k1_87 ?k2_87 ?k3_87 ?k4_87 ?k5_87 ?k6_87 ?k7_87 ?k8_87 ?k9_87 ?k10_87 ?k11_87 ?k12_87 ?k13_87 ?k14_87 ?k15_87 ?_; (case k1_87 => k_asm); (case k2_87 => k_asm); (case k3_87 => k_asm); (case k4_87 => first | k_asm | exact news_sw (by k_asm)); (case k5_87 => k_asm); (case k6_87 => first | exact rfl | assumption); (case k7_87 => first | k_all | exact all_cons2 (by assumption) (by assumption)); (case k8_87 => k_mem); (case k9_87 => k_mem); (case k10_87 => first | assumption | exact WordsIn.cons (by assumption)); (case k11_87 => first | omega | exact pos_lt (by assumption) (by assumption) | exact pos_lt1 (by assumption) (by assumption) | exact pos_lt2 (by assumption) (by assumption)); (case k12_87 => assumption); (case k13_87 => k_room); (case k14_87 => assumption); (case k15_87 => assumption); k_whole; intro tvN t3' h' tk' F' N'; (try k_sweep); (try dsimp only)) | (refine' name_no ?k1_87 ?k2_87 ?k3_87 ?k4_87 ?k5_87 ?k6_87 ?k7_87 ?k8_87 ?k9_87 ?k10_87 ?k11_87 ?k12_87 ?k13_87 ?k14_87 ?_; (case k1_87 => k_asm); (case k2_87 => k_asm); (case k3_87 => k_asm); (case k4_87 => first | k_asm | exact news_sw (by k_asm)); (case k5_87 => k_asm); (case k6_87 => first | exact rfl | assumption); (case k7_87 => first | k_all | exact all_cons2 (by assumption) (by assumption)); (case k8_87 => k_mem); (case k9_87 => k_mem); (case k10_87 => first | assumption | exact WordsIn.cons (by assumption)); (case k11_87 => first | omega | exact pos_lt (by assumption) (by assumption) | exact pos_lt1 (by assumption) (by assumption) | exact pos_lt2 (by assumption) (by assumption)); (case k12_87 => assumption); (case k13_87 => k_room); (case k14_87 => assumption); k_whole; intro eZ dxZ gZ hZ tkZ j1Z j2Z u1Z u2Z F' R' U'; (try k_sweep); (try dsimp only)))))
  k_with "~call ref" => ((k_here; (with_reducible show wpAny _ _ (call (Value.ref 368) [Value.ref _, Value.str _ _]) _ _ _); k_dflt (first | (refine' take_yes ?k1_88 ?k2_88 ?k3_88 ?k4_88 ?k5_88 ?k6_88 ?k7_88 ?k8_88 ?k9_88 ?k10_88 ?k11_88 ?k12_88 ?k13_88 ?k14_88 ?_; (case k1_88 => k_asm); (case k2_88 => k_asm); (case k3_88 => k_asm); (case k4_88 => first | k_asm | exact news_sw (by k_asm)); (case k5_88 => k_asm); (case k6_88 => first | exact rfl | assumption); (case k7_88 => first | k_all | exact all_cons2 (by assumption) (by assumption)); (case k8_88 => k_mem); (case k9_88 => k_mem); (case k10_88 => first | assumption | exact WordsIn.cons (by assumption)); (case k11_88 => first | omega | exact pos_lt (by assumption) (by assumption) | exact pos_lt1 (by assumption) (by assumption) | exact pos_lt2 (by assumption) (by assumption)); (case k12_88 => assumption); (case k13_88 => assumption); (case k14_88 => k_room); k_whole; intro t3' h' tk' F' N'; (try k_sweep); (try dsimp only)) | (refine' take_no ?k1_88 ?k2_88 ?k3_88 ?k4_88 ?k5_88 ?k6_88 ?k7_88 ?k8_88 ?k9_88 ?k10_88 ?k11_88 ?k12_88 ?k13_88 ?k14_88 ?_; (case k1_88 => k_asm); (case k2_88 => k_asm); (case k3_88 => k_asm); (case k4_88 => first | k_asm | exact news_sw (by k_asm)); (case k5_88 => k_asm); (case k6_88 => first | exact rfl | assumption); (case k7_88 => first | k_all | exact all_cons2 (by assumption) (by assumption)); (case k8_88 => k_mem); (case k9_88 => k_mem); (case k10_88 => first | assumption | exact WordsIn.cons (by assumption)); (case k11_88 => first | omega | exact pos_lt (by assumption) (by assumption) | exact pos_lt1 (by assumption) (by assumption) | exact pos_lt2 (by assumption) (by assumption)); (case k12_88 => assumption); (case k13_88 => assumption); (case k14_88 => k_room); k_whole; intro h' tk' F' N'; (try k_sweep); (try dsimp only)))))
  k_with "~posl" => (first | omega | exact pos_lt (by assumption) (by assumption) | exact pos_lt1 (by assumption) (by assumption) | exact pos_lt2 (by assumption) (by assumption))
  k_with "~call ref" => ((k_here; (with_reducible show wpAny _ _ (call (Value.ref 368) [Value.ref _, Value.str _ _]) _ _ _); k_dflt (first | (refine' take_yes ?k1_40 ?k2_40 ?k3_40 ?k4_40 ?k5_40 ?k6_40 ?k7_40 ?k8_40 ?k9_40 ?k10_40 ?k11_40 ?k12_40 ?k13_40 ?k14_40 ?_; (case k1_40 => k_asm); (case k2_40 => k_asm); (case k3_40 => k_asm); (case k4_40 => k_asm); (case k5_40 => k_asm); (case k6_40 => first | exact rfl | assumption); (case k7_40 => k_all); (case k8_40 => k_mem); (case k9_40 => k_mem); (case k10_40 => assumption); (case k11_40 => walk_at "posl"); (case k12_40 => assumption); (case k13_40 => assumption); (case k14_40 => k_room); k_whole; intro t3' h' tk' F' N'; (try k_sweep); (try dsimp only)) | (refine' take_no ?k1_40 ?k2_40 ?k3_40 ?k4_40 ?k5_40 ?k6_40 ?k7_40 ?k8_40 ?k9_40 ?k10_40 ?k11_40 ?k12_40 ?k13_40 ?k14_40 ?_; (case k1_40 => k_asm); (case k2_40 => k_asm); (case k3_40 => k_asm); (case k4_40 => k_asm); (case k5_40 => k_asm); (case k6_40 => first | exact rfl | assumption); (case k7_40 => k_all); (case k8_40 => k_mem); (case k9_40 => k_mem); (case k10_40 => assumption); (case k11_40 => walk_at "posl"); (case k12_40 => assumption); (case k13_40 => assumption); (case k14_40 => k_room); k_whole; intro h' tk' F' N'; (try k_sweep); (try dsimp only)))))
  k_with "~call ref" => ((k_here; (with_reducible show wpAny _ _ (call (Value.ref 144) _) _ _ _); k_dflt (refine' free_ok ?k1_36 ?k2_36 ?k3_36 ?k4_36 ?k5_36 ?k6_36 ?k7_36 ?k8_36 ?k9_36 ?k13_36 ?_; (case k7_36 => k_asm); (case k1_36 => k_asm); (case k2_36 => k_asm); (case k3_36 => k_asm); (case k4_36 => k_asm); (case k5_36 => k_asm); (case k6_36 => first | exact rfl | assumption); (case k8_36 => k_mem); (case k9_36 => k_mem); (case k13_36 => k_room); k_whole; intro h' tk' F' N'; (try k_sweep); (try dsimp only))))
  k_with "~call ref" => ((k_here; (with_reducible show wpAny _ _ (call (Value.ref 151) _) _ _ _); k_dflt (refine' plain_ok ?k1_41 ?k2_41 ?k3_41 ?k4_41 ?k5_41 ?k6_41 ?k7_41 ?k8_41 ?k9_41 ?k13_41 ?_; (case k7_41 => k_asm); (case k1_41 => k_asm); (case k2_41 => k_asm); (case k3_41 => k_asm); (case k4_41 => k_asm); (case k5_41 => k_asm); (case k6_41 => first | exact rfl | assumption); (case k8_41 => k_mem); (case k9_41 => k_mem); (case k13_41 => k_room); k_whole; intro h' tk' F' N'; (try k_sweep); (try dsimp only))))
  k_with "~call ref" => ((k_here; (with_reducible show wpAny _ _ (call (Value.ref 298) _) _ _ _); k_dflt (refine' here_ok ?k1_42 ?k2_42 ?k3_42 ?k4_42 ?k5_42 ?k6_42 ?k8_42 ?k7_42 ?k9_42 ?k11_42 ?k12_42 ?k13_42 ?_; (case k1_42 => k_asm); (case k2_42 => k_asm); (case k3_42 => k_asm); (case k4_42 => k_asm); (case k5_42 => k_asm); (case k6_42 => first | exact rfl | assumption); (case k8_42 => k_mem); (case k7_42 => k_mem); (case k9_42 => k_mem); (case k11_42 => walk_at "posl"); (case k12_42 => k_asm); (case k13_42 => k_room); k_whole; intro h' tk' F' N'; (try k_sweep); (try dsimp only))))
  k_with "~call ref" => ((k_here; (with_reducible show wpAny _ _ (call (Value.ref 312) _) _ _ _); k_dflt (refine' go_ok ?k1_43 ?k2_43 ?k3_43 ?k4_43 ?k5_43 ?k6_43 ?k7_43 ?k8_43 ?k9_43 ?k11_43 ?k12_43 ?k15_43 ?k16_43 ?k17_43 ?k13_43 ?_; (case k1_43 => k_asm); (case k2_43 => k_asm); (case k3_43 => k_asm); (case k4_43 => first | k_asm | exact news_sw0 (by k_asm)); (case k5_43 => k_asm); (case k6_43 => first | exact rfl | assumption); (case k7_43 => k_all); (case k8_43 => k_mem); (case k9_43 => k_mem); (case k11_43 => walk_at "posl"); (case k12_43 => k_asm); (case k15_43 => k_mem); (case k16_43 => k_mem); (case k17_43 => k_asm); (case k13_43 => k_room); k_whole; intro t3' h' tk' F' N'; (try k_sweep); (try dsimp only))))
  k_with "~call ref" => ((k_here; (with_reducible show wpAny _ _ (call (Value.ref 319) [Value.ref _, Value.str _ _]) _ _ _); k_dflt (refine' refuse_ok ?k1_44 ?k2_44 ?k3_44 ?k4_44 ?k5_44 ?k6_44 ?k8_44 ?k9_44 ?k11_44 ?k12_44 ?k15_44 ?k16_44 ?k13_44 ?_; (case k1_44 => k_asm); (case k2_44 => k_asm); (case k3_44 => k_asm); (case k4_44 => k_asm); (case k5_44 => k_asm); (case k6_44 => first | exact rfl | assumption); (case k8_44 => k_mem); (case k9_44 => k_mem); (case k11_44 => walk_at "posl"); (case k12_44 => k_asm); (case k15_44 => k_mem); (case k16_44 => k_mem); (case k13_44 => k_room); k_whole; intro eZ dxZ gZ hZ tkZ j1Z j2Z u1Z u2Z F' R' U'; (try k_sweep); (try dsimp only))))
  trivial
set_option maxHeartbeats 8000000 in
theorem names_ok {st dst lw lh : Addr} {k1 k2 k3 k4 t1 t3 : Tok} {text : Str} {k₀ nl : Nat} {items : Array Value} {ws : List PW} {out : NOut}
  (B : Below A₀ base outer h₀) (F : Fr h₀ L s.heap m) (X : (Mine.K1 w.params).In h₀) (N : News h₀ L s.heap ((dst, streamD w.params k1 k2 k3 k4 t1 t3 text lw lh (k₀ : Int)) :: rest)) (T : Top p loose mean mg mb h₀) (hk : cs.kind = .function)
  (hr : ∀ p ∈ rest, p.1 ≠ dst) (h1 : (st, instObj 413 dst) ∈ rest) (h2 : (lw, listOf items nl) ∈ rest) (hW : WordsIn w.params rest items ws) (hlen : ws.length ≤ 1001)
  (hO : NamesT ws k₀ out) (hd : dp + 40 < recursionLimit) (hu : un + 200 < cLine)
  (hret1 : ∀ lp its nlp t3' h' tk' vs k, out = .names vs k → Fr h₀ L h' m → News h₀ L h' ((lp, listOf its nlp) :: (dst, streamD w.params k1 k2 k3 k4 t1 t3' text lw lh (k : Int)) :: rest) → StrsAre its.toList vs → Q (.ref lp) { s with heap := h', toks := tk' })
  (hexc : ∀ e dx g' h' tk' k1 k2 t1 t2 msg pl, out = .err msg pl → Fr h₀ L g' m → RaisedD base g' (envX cn cs L a ccd cl :: outer) e dx ((dx, perrD w.params k1 k2 t1 t2 msg pl) :: rest) h' → g'.UpToSlots h' → E (.ref e) { s with heap := h', toks := tk' }) :
  wpAny (model prog w) (ktrTop dp un gd cn cs L a ccd cl outer) (call (.ref 42) [.ref st]) Q E s := by
  cases hO
  all_goals (refine wpAny_call ?_; k_dflt ktr_enter; k_steps)
  all_goals first
    | exact hret1 _ _ _ _ _ _ _ _ (by assumption) (by k_asm) (by first | k_asm | exact news_sw (by k_asm)) (by assumption)
    | (rename RaisedD _ _ _ _ _ _ _ => rX
       first
         | exact hexc _ _ _ _ _ _ _ _ _ _ _ rfl (by assumption) (rX.less (by intro p9 h9; rcases List.mem_cons.mp h9 with rfl | h9; exact List.mem_cons_self; exact List.mem_cons_of_mem _ (by first | exact h9 | exact List.mem_cons_of_mem _ h9))) (by assumption)
         | (rename (∀ pl, _ = NEnd.bad pl → _) => hbX; exact hexc _ _ _ _ _ _ _ _ _ _ _ (hbX _ (by assumption)) (by assumption) (rX.less (by intro p9 h9; rcases List.mem_cons.mp h9 with rfl | h9; exact List.mem_cons_self; exact List.mem_cons_of_mem _ (by first | exact h9 | exact List.mem_cons_of_mem _ h9))) (by assumption))
         | exact hexc _ _ _ _ _ _ _ _ _ _ _ (by assumption) (by assumption) (rX.less (by intro p9 h9; rcases List.mem_cons.mp h9 with rfl | h9; exact List.mem_cons_self; exact List.mem_cons_of_mem _ (by first | exact h9 | exact List.mem_cons_of_mem _ h9))) (by assumption))
end
section
open PySem PySem.W PySem.Calls PyProof.Rows
theorem obj_ne {h₀ h : Heap} {L a b : Addr} {oa ob : Obj} {led : List (Addr × Obj)} (N : News h₀ L h led) (ha : (a, oa) ∈ led) (hb : (b, ob) ∈ led) (hc : oa.cls ≠ ob.cls) : a ≠ b := by
  intro e
  have h1 := (N _ ha).1
  have h2 := (N _ hb).1
  dsimp only at h1 h2
  rw [e, h2] at h1
  injection h1 with h1
  exact hc (by rw [h1])
theorem stream_pack {P : Params} {h₀ h : Heap} {L lf x d : Addr} {items : Array Value} {nl n : Nat} {es : List DictEntry} {rest wl : List (Addr × Obj)} {ws : List PW}
    (N : News h₀ L h ((lf, listOf items nl) :: (x, instObj 413 d) :: (d, dictOf es n) :: (rest ++ wl))) (W : WordsIn P wl items ws) (l1 : ∀ p ∈ rest, p.1 < d) (b : ∀ r ∈ (x, instObj 413 d) :: (d, dictOf es n) :: rest, r.1 < lf) (b2 : ∀ q ∈ wl, lf < q.1) :
    ∃ R, News h₀ L h ((d, dictOf es n) :: R) ∧ (x, instObj 413 d) ∈ R ∧ (lf, listOf items nl) ∈ R ∧ (∀ p ∈ R, p.1 ≠ d) ∧ (∀ p ∈ rest, p ∈ R) ∧ WordsIn P R items ws := by
  have hx : x ≠ d := obj_ne N (List.mem_cons_of_mem _ List.mem_cons_self) (List.mem_cons_of_mem _ (List.mem_cons_of_mem _ List.mem_cons_self)) (by intro e; cases e)
  have hl : d < lf := b _ (List.mem_cons_of_mem _ List.mem_cons_self)
  refine ⟨(x, instObj 413 d) :: (lf, listOf items nl) :: (rest ++ wl), fun p hp => N p ?_, List.mem_cons_self, List.mem_cons_of_mem _ List.mem_cons_self, ?_, ?_, W.mono ?_⟩
  · rcases List.mem_cons.mp hp with rfl | hp
    · exact List.mem_cons_of_mem _ (List.mem_cons_of_mem _ List.mem_cons_self)
    · rcases List.mem_cons.mp hp with rfl | hp
      · exact List.mem_cons_of_mem _ List.mem_cons_self
      · rcases List.mem_cons.mp hp with rfl | hp
        · exact List.mem_cons_self
        · exact List.mem_cons_of_mem _ (List.mem_cons_of_mem _ (List.mem_cons_of_mem _ hp))
  · intro p hp
    rcases List.mem_cons.mp hp with rfl | hp
    · exact hx
    · rcases List.mem_cons.mp hp with rfl | hp
      · exact Nat.ne_of_gt hl
      · rcases List.mem_append.mp hp with hp | hp
        · exact Nat.ne_of_lt (l1 p hp)
        · exact Nat.ne_of_gt (Nat.lt_trans hl (b2 p hp))
  · exact fun p hp => List.mem_cons_of_mem _ (List.mem_cons_of_mem _ (List.mem_append_left _ hp))
  · exact fun p hp => List.mem_cons_of_mem _ (List.mem_cons_of_mem _ (List.mem_append_right _ hp))
theorem fin_news {h₀ h : Heap} {L : Addr} {t a : Addr × Obj} {R rest : List (Addr × Obj)} (N : News h₀ L h (t :: a :: R)) (u : ∀ p ∈ rest, p ∈ R) : News h₀ L h (t :: rest) := fun p hp => N p (by
  rcases List.mem_cons.mp hp with rfl | hp
  · exact List.mem_cons_self
  · exact List.mem_cons_of_mem _ (List.mem_cons_of_mem _ (u p hp)))
theorem fin_news2 {h₀ h : Heap} {L : Addr} {t a b : Addr × Obj} {R rest : List (Addr × Obj)} (N : News h₀ L h (t :: a :: b :: R)) (u : ∀ p ∈ rest, p ∈ R) : News h₀ L h (t :: rest) := fun p hp => N p (by
  rcases List.mem_cons.mp hp with rfl | hp
  · exact List.mem_cons_self
  · exact List.mem_cons_of_mem _ (List.mem_cons_of_mem _ (List.mem_cons_of_mem _ (u p hp))))
noncomputable def endW (text : Str) : PW := ⟨Str.ofString "end", Str.ofString "", .none, text.length⟩
noncomputable def PlaceT (ws : List PW) (out : TOut) (q : Int) : Prop := ∀ k, (out = .nothing k ∨ ∃ t, out = .told t k) → ∃ g, ws[k]? = some g ∧ g.pl = q
theorem place_no {ws : List PW} {out : TOut} {q : Int} {k : Nat} (h : PlaceT ws out q) (e : out = .nothing k) : ∃ g, ws[k]? = some g ∧ g.pl = q := h k (.inl e)
theorem place_told {ws : List PW} {out : TOut} {q : Int} {t : Str} {k : Nat} (h : PlaceT ws out q) (e : out = .told t k) : ∃ g, ws[k]? = some g ∧ g.pl = q := h k (.inr ⟨t, e⟩)
noncomputable def PlaceN (ws : List PW) (out : NOut) (q : Int) : Prop := ∀ vs k, out = .names vs k → ∃ g, ws[k]? = some g ∧ g.pl = q
theorem placeN {ws : List PW} {out : NOut} {q : Int} {vs : List Str} {k : Nat} (h : PlaceN ws out q) (e : out = .names vs k) : ∃ g, ws[k]? = some g ∧ g.pl = q := h vs k e
theorem fin_newsL {h₀ h : Heap} {L : Addr} {t l a : Addr × Obj} {R rest : List (Addr × Obj)} (N : News h₀ L h (t :: l :: a :: R)) (u : ∀ p ∈ rest, p ∈ R) : News h₀ L h (t :: ([l] ++ rest)) := fun p hp => N p (by
  rcases List.mem_cons.mp hp with rfl | hp
  · exact List.mem_cons_self
  · rcases List.mem_cons.mp hp with rfl | hp
    · exact List.mem_cons_of_mem _ List.mem_cons_self
    · exact List.mem_cons_of_mem _ (List.mem_cons_of_mem _ (List.mem_cons_of_mem _ (u p hp))))
theorem dat_list {lp : Addr} {its : Array Value} {n : Nat} {vs : List Str} {news : List (Addr × Obj)} (hm : (lp, listOf its n) ∈ news) (h : StrsAre its.toList vs) : DatIn news (.ref lp) (.list (vs.map Dat.str)) :=
  DatIn.list (vs := its.toList) (n := n) (by simpa using hm) (dats_of_strs h)
noncomputable def rdat (out : TOut) (q : Int) : List Dat := match out with
  | .nothing _ => [.none, .int q]
  | .told t _ => [.str t, .int q]
  | .err msg pl => [.str (Str.ofString "refused"), .str msg, .int pl]
noncomputable def ndat (out : NOut) (q : Int) : List Dat := match out with
  | .names vs _ => [.list (vs.map Dat.str), .int q]
  | .err msg pl => [.str (Str.ofString "refused"), .str msg, .int pl]
end
section
variable {prog : Program} {w : World} {p : Program} {loose : List Str} {mean : ExcName → Option Value} {mg mb : Str → Option Value}
  {dp un : Nat} {gd : Option (List Code)} {cn : Str} {cs : Scope} {a : Addr} {ccd : Value} {cl : List (Str × Addr)} {outer : List Env} {A₀ : Around} {base h₀ : Heap} {L : Addr} {m : Str → Option Value} {s : Shared}
  {Q E : Value → Shared → Prop} {rest : List (Addr × Obj)}
theorem kw_Rl1 : True := by
  w_top off
  k_with_none
  k_with "~k_all" => (first | with_reducible assumption | exact ne_of_allLt (by with_reducible assumption) | assumption | exact ne_of_allLt (by assumption))
  k_with "~memr" => (first | (with_reducible exact List.mem_cons_self ..) | ((with_reducible refine List.mem_cons_of_mem _ ?_); walk_at "memr") | (with_reducible assumption) | ((with_reducible refine List.mem_append_left _ ?_); walk_at "memr") | ((with_reducible refine List.mem_append_right _ ?_); walk_at "memr"))
  k_with "~memd" => (first | exact List.mem_cons_self .. | (refine List.mem_cons_of_mem _ ?_; walk_at "memd") | (refine List.mem_append.mpr (Or.inl ?_); walk_at "memd") | (refine List.mem_append.mpr (Or.inr ?_); walk_at "memd") | assumption)
  k_with "~k_mem" => (first | walk_at "memr" | walk_at "memd")
  k_with "~k_in" => (first | with_reducible assumption | exact Frag.In.keeps (by with_reducible assumption) (Fr.keep (by with_reducible assumption)))
  k_with "~k_room" => (((try simp only [depth_under_make, depth_under_kw, depth_in1, depth_deeper, depth_caller]); (try dsimp only [ktrTop]); first | walk_at "room" | omega))
  k_with "~mul_fits" => (k_dflt (exact mulOk_fmod _ _))
  k_with "~exec Raise some none" => ((k_here; (with_reducible show wpAny _ _ (exec (Stmt.Raise (some (Expr.Call (Expr.Name (Str.ofString "ParseError") _) _ _ _)) none _) _) _ _ _); refine Raise_E rfl ?_))
  k_with "~RaiseBack" => ((k_dflt (refine' RaiseBack.intro ?k1_8 ?k2_8 ?k3_8 ?k4_8 ?k5_8 ?_; (case k1_8 => k_asm); (case k2_8 => k_asm); (case k3_8 => k_asm); (case k4_8 => k_is); (case k5_8 => k_mem))))
  k_with "~call ref" => ((k_here; (with_reducible show wpAny _ _ (call (Value.ref 91) _ _) _ _ _); k_dflt (refine' call_excE ?k1_9 ?k2_9 ?k3_9 ?k4_9 ?k5_9 ?k6_9 ?k7_9 ?k8_9 ?k9_9 ?_; (case k1_9 => k_asm); (case k2_9 => k_asm); (case k3_9 => k_asm); (case k4_9 => k_is); (case k5_9 => k_is); (case k6_9 => k_is); (case k7_9 => k_is); (case k8_9 => k_is); (case k9_9 => size_fits); k_whole; intro e' t' h' F' N' l1 l2 l3; (try k_lt l1); (try k_lt2 l2); (try k_lt l3); (try k_sweep); (try dsimp only); k_enter)))
  k_with "~instx" => (first | (refine' inst_exc ?N_10 ?h1_10 ?h2_10; (case N_10 => with_reducible assumption); (case h1_10 => walk_at "memr"); (case h2_10 => walk_at "memr")) | (refine' inst_exc2 ?N_10 ?h1_10 ?hc_10 ?hd_10 ?hn_10 ?h2_10; (case hc_10 => with_reducible assumption); (case hd_10 => with_reducible assumption); (case hn_10 => with_reducible assumption); (case N_10 => with_reducible assumption); (case h1_10 => walk_at "memr"); (case h2_10 => walk_at "memr")))
  k_with "~instn" => ((refine' InstAt.of_news ?N_11 ?h1_11 ?h2_11; (case N_11 => with_reducible assumption); (case h1_11 => walk_at "memr"); (case h2_11 => walk_at "memr")))
  k_with "~k_inst" => (first | walk_at "instn" | walk_at "instx")
  k_with "~setAttr ref" => ((k_here; k_dflt (first | (refine' setE_new ?k1_13 ?k2_13 ?k3_13 ?k4_13 ?k5_13 ?k6_13 ?k6b_13 ?k7_13 ?k8_13 ?k9_13 ?k10_13 ?_; (case k1_13 => k_asm); (case k2_13 => k_asm); (case k3_13 => k_asm); (case k4_13 => k_all); (case k5_13 => k_is); (case k6_13 => k_is); (case k6b_13 => exact rfl); (case k7_13 => k_is); (case k8_13 => k_is); (case k9_13 => k_put); (case k10_13 => exact Nat.le_of_ble_eq_true rfl); k_whole; intro h' dx' F' N' l1 l2; (try k_lt l1); (try k_lt2 l2); (try k_sweep); (try dsimp only)) | (refine' setE_old ?k1_13 ?k2_13 ?k3_13 ?k4_13 ?k5_13 ?k6_13 ?k7_13 ?k7b_13 ?k8_13 ?k9_13 ?k10_13 ?k11_13 ?k12_13 ?k13_13 ?_; (case k1_13 => k_asm); (case k2_13 => k_asm); (case k3_13 => k_asm); (case k4_13 => walk_at "instx"); (case k5_13 => exact rfl); (case k6_13 => k_is); (case k7_13 => k_is); (case k7b_13 => exact rfl); (case k8_13 => k_is); (case k9_13 => k_is); (case k10_13 => k_get); (case k11_13 => k_put); (case k12_13 => k_upd); (case k13_13 => exact Nat.le_of_ble_eq_true rfl); k_whole; intro h' F' N'; (try k_sweep); (try dsimp only)))))
  k_with "~getAttr ref" => ((k_here; k_dflt (refine' getE ?k1_14 ?k2_14 ?k3_14 ?k4_14 ?k5_14 ?k6_14 ?k7_14 ?k8_14 ?k9_14 ?k10_14 ?_; (case k1_14 => k_asm); (case k2_14 => k_asm); (case k3_14 => walk_at "instx"); (case k4_14 => k_is); (case k5_14 => k_is); (case k6_14 => k_is); (case k7_14 => k_is); (case k8_14 => k_is); (case k9_14 => k_get); (case k10_14 => k_handed); k_whole)))
  k_with "~getAttr ref" => ((k_here; k_dflt (refine' get_own ?k1_15 ?k2_15 ?k3_15 ?k4_15 ?k5_15 ?k6_15 ?k7_15 ?k8_15 ?k9_15 ?_; (case k1_15 => k_asm); (case k2_15 => k_asm); (case k3_15 => walk_at "instn"); (case k4_15 => k_is); (case k5_15 => k_is); (case k6_15 => k_is); (case k7_15 => k_is); (case k8_15 => k_get); (case k9_15 => k_handed); k_whole)))
  k_with "~leaving ref" => ((k_here; k_dflt (first | (refine' leave_raiseD2 ?k1_16 ?k2_16 ?k3_16 ?k4_16 ?_; (case k1_16 => k_asm); (case k2_16 => k_asm); (case k3_16 => k_asm); (case k4_16 => k_all); k_whole; intro h' R' U'; (try dsimp only at R' U' ⊢)) | (refine' leave_onD ?k1_16 ?k2_16 ?k3_16 ?k4_16 ?_; (case k3_16 => k_asm); (case k2_16 => k_asm); (case k1_16 => k_asm); (case k4_16 => k_asm); k_whole; intro h' R' U'; (try dsimp only at R' U' ⊢)))))
  k_with "~subscriptTail Attribute Name Attribute ref int" => ((k_here; (with_reducible show wpAny _ _ (subscriptTail _ _ (Value.ref _) (Value.int _ _)) _ _ _); k_dflt (refine' item_ctx ?k1_17 ?k2_17 ?k3_17 ?k4_17 ?k5_17 ?_ ?k6_17; (case k1_17 => k_asm); (case k2_17 => k_mem); (case k3_17 => omega); (case k4_17 => omega); (case k5_17 => k_asm); (case k6_17 => with_unfolding_all rfl); k_whole)))
  k_with "~compareOp Eq str str" => ((k_here; k_dflt (refine eq_ctx (by k_asm) ?_)))
  k_with "~compareOp NotEq str str" => ((k_here; k_dflt (refine ne_ctx (by k_asm) ?_)))
  k_with "~call type:str" => ((k_here; (with_reducible show wpAny _ _ (call (Value.type "str") [Value.int _ _]) _ _ _); k_dflt (refine PySem.P.str_of_int (log_small (by k_asm) (by k_asm)) ?_)))
  k_with "~compareOp NotIn str ref" => ((k_here; k_dflt (first | refine resv_notin (by k_asm) (by k_asm) (by k_asm) ?_ | refine joinw_notin (by k_asm) (by k_asm) (by k_asm) ?_)))
  k_with "~compareOp In str ref" => ((k_here; k_dflt (refine sgn2_in (by k_asm) (by k_asm) (by k_asm) ?_)))
  k_with "~size_fits" => (exact size1000 (by k_asm))
  k_with "~subscriptTail Attribute Name Attribute str int" => ((k_here; (with_reducible show wpAny _ _ (subscriptTail _ _ (Value.str _ _) (Value.int _ _)) _ _ _); k_dflt (refine item_sctx (by k_asm) (by k_asm) ?_)))
  k_with "~compareOp In str str" => ((k_here; k_dflt (refine in_sctx (by k_asm) ?_)))
  k_with "~call builtin:ord" => ((k_here; (with_reducible show wpAny _ _ (call (Value.builtin "ord") [Value.str ⟨#[_]⟩ _]) _ _ _); refine ord_sctx ?_))
  k_with "~TurnI" => ((k_dflt (refine' TurnI.intro ?k1_27 ?k2_27 ?k3_27 ?k4_27; (case k1_27 => k_asm); (case k2_27 => k_asm); (case k3_27 => exact rfl); (case k4_27 => (intro z hz; simp [hz])))))
  k_with "~call builtin:str.isascii" => ((k_here; refine isascii_ctx (by k_asm) ?_))
  k_with "~subscriptTail Name Name str int" => ((k_here; k_dflt (refine item_sctx (by k_asm) (by k_asm) ?_)))
  k_with "~subscriptTail Attribute Name Slice str ref" => ((walk_at "last subscriptTail"))
  k_with "~storeName" => ((k_here; k_dflt (refine' storeX_L ?F_31 ?N_31 ?_ ?a_31 ?b_31; (case F_31 => k_asm); (case N_31 => k_asm); (case a_31 => rfl); (case b_31 => rfl); k_whole; intro h' F' N'; (try k_sweep); (try dsimp only))))
  k_with "~execs cons" => ((k_here; k_fold))
  k_with "~room" => (first | exact room1 (by with_reducible assumption) (Nat.le_of_ble_eq_true rfl) | exact room0 (by with_reducible assumption) (Nat.le_of_ble_eq_true rfl) | exact room2 (by with_reducible assumption) (Nat.le_of_ble_eq_true rfl))
  k_with "~ltc" => (first | (with_reducible assumption) | (with_reducible exact And.left (by with_reducible assumption)) | (with_reducible exact And.left (And.right (by with_reducible assumption))) | (with_reducible exact And.left (And.right (And.right (by with_reducible assumption)))) | (with_reducible exact And.left (And.right (And.right (And.right (by with_reducible assumption))))) | (with_reducible exact And.left (And.right (And.right (And.right (And.right (by with_reducible assumption)))))) | (with_reducible exact And.left (And.right (And.right (And.right (And.right (And.right (by with_reducible assumption))))))) | (with_reducible exact And.left (And.right (And.right (And.right (And.right (And.right (And.right (by with_reducible assumption)))))))) | (with_reducible exact (And.right (by with_reducible assumption))) | (with_reducible exact (And.right (And.right (by with_reducible assumption)))))
  k_with "~k_ne" => (((refine neN ?_); (try dsimp only); first | (with_reducible exact Nat.ne_of_lt (by walk_at "ltc")) | (with_reducible exact Nat.ne_of_gt (by walk_at "ltc"))))
  k_with "~call ref" => ((k_here; (with_reducible show wpAny _ _ (call (Value.ref 277) _) _ _ _); k_dflt (refine' words_ok ?k1_89 ?k2_89 ?k3_89 ?k4_89 ?k5_89 ?k6_89 ?k7_89 ?k8_89 ?k9_89 ?_; (case k1_89 => k_asm); (case k2_89 => k_asm); (case k3_89 => k_asm); (case k4_89 => k_asm); (case k5_89 => k_asm); (case k6_89 => first | exact rfl | assumption); (case k7_89 => assumption); (case k8_89 => assumption); (case k9_89 => k_room); k_whole; intro lfR itR nlR wlR hR tkR fR nR wR sR bR b2R; (try simp only [List.cons_append, List.nil_append] at nR); (obtain ⟨rX, nX, mX1, mX2, aX, uX, wX⟩ := stream_pack nR wR (by assumption) bR b2R); clear nR wR bR b2R; (try k_sweep); (try dsimp only))))
  k_with "~k_ent" => ((refine' code_defS ?k1_90 ?k2_90 ?k3_90 ?k4_90 ?k5_90 ?XB_90 ?TB_90 ?D_90 ?T0_90 ?kA_90 ?k6_90 ?k7_90 ?k8_90 ?k9_90 ?kB_90 ?_ ?cK_90 ?c2_90 ?c3_90 ?c4_90 ?c5_90; (case kA_90 => exact rfl); (case k2_90 => k_asm); (case k1_90 => k_asm); (case XB_90 => assumption); (case TB_90 => assumption); (case D_90 => assumption); (case T0_90 => exact KtsTurn.refl); (case k3_90 => k_asm); (case k4_90 => k_asm); (case k5_90 => k_asm); (case k6_90 => k_is); (case k7_90 => k_is); (case k8_90 => k_room); (case k9_90 => exact BindsTo.of_eq rfl); (case kB_90 => exact locs rfl); (case cK_90 => assumption); (case c2_90 => exact rfl); (case c3_90 => exact rfl); (case c4_90 => exact rfl); (case c5_90 => decide); k_whole; intro g' L' h' FG' F' N' B' X' T' D'; (try dsimp only); (try k_lift B'); (try k_fold)))
  k_with "~noteFrame ref" => ((k_here; k_dflt (refine' caught_D ?R_91 ?F_91 ?K_91 ?U_91 ?XB_91 ?TB_91 ?D_91 ?T0_91 ?ex_91 ?hC_91 ?_; (case R_91 => assumption); (case F_91 => assumption); (case K_91 => assumption); (case U_91 => assumption); (case XB_91 => assumption); (case TB_91 => assumption); (case D_91 => assumption); (case T0_91 => first | assumption | exact KtsTurn.refl); (case ex_91 => k_is); (case hC_91 => k_is); k_whole; intro hC' gC tkC oeC T' F' N' c1 c2 c3 K' X' P' D'; (try k_lift K'); (try k_sweep); (try dsimp only))))
  k_with "~call ref" => ((k_here; (with_reducible show wpAny _ _ (call (Value.ref 28) _) _ _ _); (with_reducible rename WordsIn _ _ _ _ => wX); (with_reducible rename PlaceT _ _ _ => plcX); k_dflt (refine' type_ok (k₀ := 0) ?k1_92 ?k2_92 ?k3_92 ?k4_92 ?k5_92 ?k6_92 ?k7_92 ?k8_92 ?k9_92 ?k10_92 ?k11_92 ?k12_92 ?k13_92 ?k14_92 ?k15_92 ?k16_92 ?k17_92 ?k18_92 ?k19_92 ?k20_92 ?k21_92; (case k1_92 => k_asm); (case k2_92 => k_asm); (case k3_92 => k_asm); (case k4_92 => exact news_drop1 (by k_asm)); (case k5_92 => k_asm); (case k6_92 => first | exact rfl | assumption); (case k7_92 => assumption); (case k8_92 => assumption); (case k9_92 => assumption); (case k10_92 => assumption); (case k11_92 => assumption);  (case k12_92 => assumption); (case k13_92 => assumption); (case k14_92 => assumption); (case k15_92 => assumption); (case k16_92 => assumption); (case k17_92 => k_room); (case k18_92 => first | walk_at "room" | ((try simp only [units_under_make, units_in1, units_deeper, Around.mark_units, units_caller]); (try dsimp only [ktrTop]); first | walk_at "room" | omega)); (case' k19_92 => (k_whole; intro t3Z hZ tkZ kZ oZ F' N'; obtain ⟨gP, hwP, hpP⟩ := place_no plcX oZ; obtain ⟨xP, dxP, j1P, j2P, j3P, j4P, u1P, u2P, u3P, u4P, hiP, hxP, hdxP⟩ := wX _ _ hwP; have hiP' := at_nat hiP; have hkP := pos_lt hwP (by assumption); (try k_sweep); (try dsimp only))); (case' k20_92 => (k_whole; intro tvZ t3Z hZ tkZ tZ kZ oZ F' N'; obtain ⟨gP, hwP, hpP⟩ := place_told plcX oZ; obtain ⟨xP, dxP, j1P, j2P, j3P, j4P, u1P, u2P, u3P, u4P, hiP, hxP, hdxP⟩ := wX _ _ hwP; have hiP' := at_nat hiP; have hkP := pos_lt hwP (by assumption); (try k_sweep); (try dsimp only))); (case' k21_92 => (k_whole; intro eZ dxZ gZ hZ tkZ j1Z j2Z u1Z u2Z msgZ plZ oZ F' R' U'; (try k_sweep); (try dsimp only))))))
  trivial
set_option maxHeartbeats 8000000 in
theorem rtype_ok {text : Str} {tx : Tok} {ws : List PW} {vs : List Str} {j : Nat} {out : TOut} {q : Int}
  (B : Below A₀ base outer h₀) (F : Fr h₀ L s.heap m) (X : (Mine.K1 w.params).In h₀) (N : News h₀ L s.heap rest) (T : Top p loose mean mg mb h₀) (hk : cs.kind = .function)
  (XB : (Mine.K1 w.params).In base) (TB : Top p loose mean mg mb base) (D : KtsDicts (outer.filterMap (·.frame)) h₀)
  (hT : text.length ≤ 1000) (hsc : Scan text 0 ws) (hlen : (ws ++ [endW text]).length ≤ 1001)
  (hp : Plain (ws ++ [endW text]) 0 vs j) (ho : ∀ v ∈ vs, PyData.strOk v = true) (hjl : (Txt.join (Str.ofString " ") vs).length ≤ 100000) (hjs : (vs.map (·.length)).sum + vs.length * 64 ≤ 16777216)
  (hO : TypeT (ws ++ [endW text]) vs j out) (hP : PlaceT (ws ++ [endW text]) out q)
  (hd : dp + 100 < recursionLimit) (hu : un + 300 < cLine)
  (hret : ∀ g₀' tup vals n h' tk', KtsTurn (outer.filterMap (·.frame)) h₀ g₀' → Fr g₀' L h' m → News g₀' L h' ((tup, { cls := .type "tuple", data := .seq vals.toArray n }) :: rest) → DatAll [] vals (rdat out q) → Below A₀ base outer g₀' → (Mine.K1 w.params).In g₀' → Top p loose mean mg mb g₀' → KtsDicts (outer.filterMap (·.frame)) g₀' → Q (.ref tup) { s with heap := h', toks := tk' }) :
  wpAny (model prog w) (ktrTop dp un gd cn cs L a ccd [] outer) (call (.ref 445) [.str text tx, .bool true]) Q E s := by
  refine wpAny_call ?_
  k_dflt (walk_at "k_ent")
  k_steps
  · (rename _ = TOut.err _ _ => oT)
    refine hret _ _ _ _ _ _ (by assumption) (by k_asm) (fin_news2 (by k_asm) (by assumption)) ?_ (by assumption) (by assumption) (by assumption) (by assumption)
    rw [oT]
    exact DatAll.cons (DatIn.str _ _) (DatAll.cons (DatIn.str _ _) (DatAll.cons (DatIn.int _ _) DatAll.nil))
  · (rename _ = TOut.told _ _ => oT)
    (rename PW.pl _ = q => hq)
    refine hret _ _ _ _ _ _ KtsTurn.refl (by k_asm) (fin_news (by k_asm) (by assumption)) ?_ (by assumption) (by assumption) (by assumption) (by assumption)
    rw [oT, ← hq]
    exact DatAll.cons (DatIn.str _ _) (DatAll.cons (DatIn.int _ _) DatAll.nil)
  · (rename _ = TOut.nothing _ => oT)
    (rename PW.pl _ = q => hq)
    refine hret _ _ _ _ _ _ KtsTurn.refl (by k_asm) (fin_news (by k_asm) (by assumption)) ?_ (by assumption) (by assumption) (by assumption) (by assumption)
    rw [oT, ← hq]
    exact DatAll.cons DatIn.none (DatAll.cons (DatIn.int _ _) DatAll.nil)
end
section
variable {prog : Program} {w : World} {p : Program} {loose : List Str} {mean : ExcName → Option Value} {mg mb : Str → Option Value}
  {dp un : Nat} {gd : Option (List Code)} {cn : Str} {cs : Scope} {a : Addr} {ccd : Value} {cl : List (Str × Addr)} {outer : List Env} {A₀ : Around} {base h₀ : Heap} {L : Addr} {m : Str → Option Value} {s : Shared}
  {Q E : Value → Shared → Prop} {rest : List (Addr × Obj)}
theorem kw_Rl2 : True := by
  w_top off
  k_with_none
  k_with "~k_all" => (first | with_reducible assumption | exact ne_of_allLt (by with_reducible assumption) | assumption | exact ne_of_allLt (by assumption))
  k_with "~memr" => (first | (with_reducible exact List.mem_cons_self ..) | ((with_reducible refine List.mem_cons_of_mem _ ?_); walk_at "memr") | (with_reducible assumption) | ((with_reducible refine List.mem_append_left _ ?_); walk_at "memr") | ((with_reducible refine List.mem_append_right _ ?_); walk_at "memr"))
  k_with "~memd" => (first | exact List.mem_cons_self .. | (refine List.mem_cons_of_mem _ ?_; walk_at "memd") | (refine List.mem_append.mpr (Or.inl ?_); walk_at "memd") | (refine List.mem_append.mpr (Or.inr ?_); walk_at "memd") | assumption)
  k_with "~k_mem" => (first | walk_at "memr" | walk_at "memd")
  k_with "~k_in" => (first | with_reducible assumption | exact Frag.In.keeps (by with_reducible assumption) (Fr.keep (by with_reducible assumption)))
  k_with "~k_room" => (((try simp only [depth_under_make, depth_under_kw, depth_in1, depth_deeper, depth_caller]); (try dsimp only [ktrTop]); first | walk_at "room" | omega))
  k_with "~mul_fits" => (k_dflt (exact mulOk_fmod _ _))
  k_with "~exec Raise some none" => ((k_here; (with_reducible show wpAny _ _ (exec (Stmt.Raise (some (Expr.Call (Expr.Name (Str.ofString "ParseError") _) _ _ _)) none _) _) _ _ _); refine Raise_E rfl ?_))
  k_with "~RaiseBack" => ((k_dflt (refine' RaiseBack.intro ?k1_8 ?k2_8 ?k3_8 ?k4_8 ?k5_8 ?_; (case k1_8 => k_asm); (case k2_8 => k_asm); (case k3_8 => k_asm); (case k4_8 => k_is); (case k5_8 => k_mem))))
  k_with "~call ref" => ((k_here; (with_reducible show wpAny _ _ (call (Value.ref 91) _ _) _ _ _); k_dflt (refine' call_excE ?k1_9 ?k2_9 ?k3_9 ?k4_9 ?k5_9 ?k6_9 ?k7_9 ?k8_9 ?k9_9 ?_; (case k1_9 => k_asm); (case k2_9 => k_asm); (case k3_9 => k_asm); (case k4_9 => k_is); (case k5_9 => k_is); (case k6_9 => k_is); (case k7_9 => k_is); (case k8_9 => k_is); (case k9_9 => size_fits); k_whole; intro e' t' h' F' N' l1 l2 l3; (try k_lt l1); (try k_lt2 l2); (try k_lt l3); (try k_sweep); (try dsimp only); k_enter)))
  k_with "~instx" => (first | (refine' inst_exc ?N_10 ?h1_10 ?h2_10; (case N_10 => with_reducible assumption); (case h1_10 => walk_at "memr"); (case h2_10 => walk_at "memr")) | (refine' inst_exc2 ?N_10 ?h1_10 ?hc_10 ?hd_10 ?hn_10 ?h2_10; (case hc_10 => with_reducible assumption); (case hd_10 => with_reducible assumption); (case hn_10 => with_reducible assumption); (case N_10 => with_reducible assumption); (case h1_10 => walk_at "memr"); (case h2_10 => walk_at "memr")))
  k_with "~instn" => ((refine' InstAt.of_news ?N_11 ?h1_11 ?h2_11; (case N_11 => with_reducible assumption); (case h1_11 => walk_at "memr"); (case h2_11 => walk_at "memr")))
  k_with "~k_inst" => (first | walk_at "instn" | walk_at "instx")
  k_with "~setAttr ref" => ((k_here; k_dflt (first | (refine' setE_new ?k1_13 ?k2_13 ?k3_13 ?k4_13 ?k5_13 ?k6_13 ?k6b_13 ?k7_13 ?k8_13 ?k9_13 ?k10_13 ?_; (case k1_13 => k_asm); (case k2_13 => k_asm); (case k3_13 => k_asm); (case k4_13 => k_all); (case k5_13 => k_is); (case k6_13 => k_is); (case k6b_13 => exact rfl); (case k7_13 => k_is); (case k8_13 => k_is); (case k9_13 => k_put); (case k10_13 => exact Nat.le_of_ble_eq_true rfl); k_whole; intro h' dx' F' N' l1 l2; (try k_lt l1); (try k_lt2 l2); (try k_sweep); (try dsimp only)) | (refine' setE_old ?k1_13 ?k2_13 ?k3_13 ?k4_13 ?k5_13 ?k6_13 ?k7_13 ?k7b_13 ?k8_13 ?k9_13 ?k10_13 ?k11_13 ?k12_13 ?k13_13 ?_; (case k1_13 => k_asm); (case k2_13 => k_asm); (case k3_13 => k_asm); (case k4_13 => walk_at "instx"); (case k5_13 => exact rfl); (case k6_13 => k_is); (case k7_13 => k_is); (case k7b_13 => exact rfl); (case k8_13 => k_is); (case k9_13 => k_is); (case k10_13 => k_get); (case k11_13 => k_put); (case k12_13 => k_upd); (case k13_13 => exact Nat.le_of_ble_eq_true rfl); k_whole; intro h' F' N'; (try k_sweep); (try dsimp only)))))
  k_with "~getAttr ref" => ((k_here; k_dflt (refine' getE ?k1_14 ?k2_14 ?k3_14 ?k4_14 ?k5_14 ?k6_14 ?k7_14 ?k8_14 ?k9_14 ?k10_14 ?_; (case k1_14 => k_asm); (case k2_14 => k_asm); (case k3_14 => walk_at "instx"); (case k4_14 => k_is); (case k5_14 => k_is); (case k6_14 => k_is); (case k7_14 => k_is); (case k8_14 => k_is); (case k9_14 => k_get); (case k10_14 => k_handed); k_whole)))
  k_with "~getAttr ref" => ((k_here; k_dflt (refine' get_own ?k1_15 ?k2_15 ?k3_15 ?k4_15 ?k5_15 ?k6_15 ?k7_15 ?k8_15 ?k9_15 ?_; (case k1_15 => k_asm); (case k2_15 => k_asm); (case k3_15 => walk_at "instn"); (case k4_15 => k_is); (case k5_15 => k_is); (case k6_15 => k_is); (case k7_15 => k_is); (case k8_15 => k_get); (case k9_15 => k_handed); k_whole)))
  k_with "~leaving ref" => ((k_here; k_dflt (first | (refine' leave_raiseD2 ?k1_16 ?k2_16 ?k3_16 ?k4_16 ?_; (case k1_16 => k_asm); (case k2_16 => k_asm); (case k3_16 => k_asm); (case k4_16 => k_all); k_whole; intro h' R' U'; (try dsimp only at R' U' ⊢)) | (refine' leave_onD ?k1_16 ?k2_16 ?k3_16 ?k4_16 ?_; (case k3_16 => k_asm); (case k2_16 => k_asm); (case k1_16 => k_asm); (case k4_16 => k_asm); k_whole; intro h' R' U'; (try dsimp only at R' U' ⊢)))))
  k_with "~subscriptTail Attribute Name Attribute ref int" => ((k_here; (with_reducible show wpAny _ _ (subscriptTail _ _ (Value.ref _) (Value.int _ _)) _ _ _); k_dflt (refine' item_ctx ?k1_17 ?k2_17 ?k3_17 ?k4_17 ?k5_17 ?_ ?k6_17; (case k1_17 => k_asm); (case k2_17 => k_mem); (case k3_17 => omega); (case k4_17 => omega); (case k5_17 => k_asm); (case k6_17 => with_unfolding_all rfl); k_whole)))
  k_with "~compareOp Eq str str" => ((k_here; k_dflt (refine eq_ctx (by k_asm) ?_)))
  k_with "~compareOp NotEq str str" => ((k_here; k_dflt (refine ne_ctx (by k_asm) ?_)))
  k_with "~call type:str" => ((k_here; (with_reducible show wpAny _ _ (call (Value.type "str") [Value.int _ _]) _ _ _); k_dflt (refine PySem.P.str_of_int (log_small (by k_asm) (by k_asm)) ?_)))
  k_with "~compareOp NotIn str ref" => ((k_here; k_dflt (first | refine resv_notin (by k_asm) (by k_asm) (by k_asm) ?_ | refine joinw_notin (by k_asm) (by k_asm) (by k_asm) ?_)))
  k_with "~compareOp In str ref" => ((k_here; k_dflt (refine sgn2_in (by k_asm) (by k_asm) (by k_asm) ?_)))
  k_with "~size_fits" => (exact size1000 (by k_asm))
  k_with "~subscriptTail Attribute Name Attribute str int" => ((k_here; (with_reducible show wpAny _ _ (subscriptTail _ _ (Value.str _ _) (Value.int _ _)) _ _ _); k_dflt (refine item_sctx (by k_asm) (by k_asm) ?_)))
  k_with "~compareOp In str str" => ((k_here; k_dflt (refine in_sctx (by k_asm) ?_)))
  k_with "~call builtin:ord" => ((k_here; (with_reducible show wpAny _ _ (call (Value.builtin "ord") [Value.str ⟨#[_]⟩ _]) _ _ _); refine ord_sctx ?_))
  k_with "~TurnI" => ((k_dflt (refine' TurnI.intro ?k1_27 ?k2_27 ?k3_27 ?k4_27; (case k1_27 => k_asm); (case k2_27 => k_asm); (case k3_27 => exact rfl); (case k4_27 => (intro z hz; simp [hz])))))
  k_with "~call builtin:str.isascii" => ((k_here; refine isascii_ctx (by k_asm) ?_))
  k_with "~subscriptTail Name Name str int" => ((k_here; k_dflt (refine item_sctx (by k_asm) (by k_asm) ?_)))
  k_with "~subscriptTail Attribute Name Slice str ref" => ((walk_at "last subscriptTail"))
  k_with "~storeName" => ((k_here; k_dflt (refine' storeX_L ?F_31 ?N_31 ?_ ?a_31 ?b_31; (case F_31 => k_asm); (case N_31 => k_asm); (case a_31 => rfl); (case b_31 => rfl); k_whole; intro h' F' N'; (try k_sweep); (try dsimp only))))
  k_with "~execs cons" => ((k_here; k_fold))
  k_with "~room" => (first | exact room1 (by with_reducible assumption) (Nat.le_of_ble_eq_true rfl) | exact room0 (by with_reducible assumption) (Nat.le_of_ble_eq_true rfl) | exact room2 (by with_reducible assumption) (Nat.le_of_ble_eq_true rfl))
  k_with "~ltc" => (first | (with_reducible assumption) | (with_reducible exact And.left (by with_reducible assumption)) | (with_reducible exact And.left (And.right (by with_reducible assumption))) | (with_reducible exact And.left (And.right (And.right (by with_reducible assumption)))) | (with_reducible exact And.left (And.right (And.right (And.right (by with_reducible assumption))))) | (with_reducible exact And.left (And.right (And.right (And.right (And.right (by with_reducible assumption)))))) | (with_reducible exact And.left (And.right (And.right (And.right (And.right (And.right (by with_reducible assumption))))))) | (with_reducible exact And.left (And.right (And.right (And.right (And.right (And.right (And.right (by with_reducible assumption)))))))) | (with_reducible exact (And.right (by with_reducible assumption))) | (with_reducible exact (And.right (And.right (by with_reducible assumption)))))
  k_with "~k_ne" => (((refine neN ?_); (try dsimp only); first | (with_reducible exact Nat.ne_of_lt (by walk_at "ltc")) | (with_reducible exact Nat.ne_of_gt (by walk_at "ltc"))))
  k_with "~call ref" => ((k_here; (with_reducible show wpAny _ _ (call (Value.ref 277) _) _ _ _); k_dflt (refine' words_ok ?k1_89 ?k2_89 ?k3_89 ?k4_89 ?k5_89 ?k6_89 ?k7_89 ?k8_89 ?k9_89 ?_; (case k1_89 => k_asm); (case k2_89 => k_asm); (case k3_89 => k_asm); (case k4_89 => k_asm); (case k5_89 => k_asm); (case k6_89 => first | exact rfl | assumption); (case k7_89 => assumption); (case k8_89 => assumption); (case k9_89 => k_room); k_whole; intro lfR itR nlR wlR hR tkR fR nR wR sR bR b2R; (try simp only [List.cons_append, List.nil_append] at nR); (obtain ⟨rX, nX, mX1, mX2, aX, uX, wX⟩ := stream_pack nR wR (by assumption) bR b2R); clear nR wR bR b2R; (try k_sweep); (try dsimp only))))
  k_with "~k_ent" => ((refine' code_defS ?k1_90 ?k2_90 ?k3_90 ?k4_90 ?k5_90 ?XB_90 ?TB_90 ?D_90 ?T0_90 ?kA_90 ?k6_90 ?k7_90 ?k8_90 ?k9_90 ?kB_90 ?_ ?cK_90 ?c2_90 ?c3_90 ?c4_90 ?c5_90; (case kA_90 => exact rfl); (case k2_90 => k_asm); (case k1_90 => k_asm); (case XB_90 => assumption); (case TB_90 => assumption); (case D_90 => assumption); (case T0_90 => exact KtsTurn.refl); (case k3_90 => k_asm); (case k4_90 => k_asm); (case k5_90 => k_asm); (case k6_90 => k_is); (case k7_90 => k_is); (case k8_90 => k_room); (case k9_90 => exact BindsTo.of_eq rfl); (case kB_90 => exact locs rfl); (case cK_90 => assumption); (case c2_90 => exact rfl); (case c3_90 => exact rfl); (case c4_90 => exact rfl); (case c5_90 => decide); k_whole; intro g' L' h' FG' F' N' B' X' T' D'; (try dsimp only); (try k_lift B'); (try k_fold)))
  k_with "~noteFrame ref" => ((k_here; k_dflt (refine' caught_D ?R_91 ?F_91 ?K_91 ?U_91 ?XB_91 ?TB_91 ?D_91 ?T0_91 ?ex_91 ?hC_91 ?_; (case R_91 => assumption); (case F_91 => assumption); (case K_91 => assumption); (case U_91 => assumption); (case XB_91 => assumption); (case TB_91 => assumption); (case D_91 => assumption); (case T0_91 => first | assumption | exact KtsTurn.refl); (case ex_91 => k_is); (case hC_91 => k_is); k_whole; intro hC' gC tkC oeC T' F' N' c1 c2 c3 K' X' P' D'; (try k_lift K'); (try k_sweep); (try dsimp only))))
  k_with "~call ref" => ((k_here; (with_reducible show wpAny _ _ (call (Value.ref 42) _) _ _ _); (with_reducible rename WordsIn _ _ _ _ => wX); (with_reducible rename PlaceN _ _ _ => plcX); k_dflt (refine' names_ok (k₀ := 0) ?k1_93 ?k2_93 ?k3_93 ?k4_93 ?k5_93 ?k6_93 ?k7_93 ?k8_93 ?k9_93 ?k10_93 ?k11_93 ?k16_93 ?k17_93 ?k18_93 ?k20_93 ?k21_93; (case k1_93 => k_asm); (case k2_93 => k_asm); (case k3_93 => k_asm); (case k4_93 => exact news_drop1 (by k_asm)); (case k5_93 => k_asm); (case k6_93 => first | exact rfl | assumption); (case k7_93 => assumption); (case k8_93 => assumption); (case k9_93 => assumption); (case k10_93 => assumption); (case k11_93 => assumption);  (case k16_93 => assumption); (case k17_93 => k_room); (case k18_93 => first | walk_at "room" | ((try simp only [units_under_make, units_in1, units_deeper, Around.mark_units, units_caller]); (try dsimp only [ktrTop]); first | walk_at "room" | omega)); (case' k20_93 => (k_whole; intro lpZ itsZ nlpZ t3Z hZ tkZ vsZ kZ oZ F' N' stZ; obtain ⟨gP, hwP, hpP⟩ := placeN plcX oZ; obtain ⟨xP, dxP, j1P, j2P, j3P, j4P, u1P, u2P, u3P, u4P, hiP, hxP, hdxP⟩ := wX _ _ hwP; have hiP' := at_nat hiP; have hkP := pos_lt hwP (by assumption); (try k_sweep); (try dsimp only))); (case' k21_93 => (k_whole; intro eZ dxZ gZ hZ tkZ j1Z j2Z u1Z u2Z msgZ plZ oZ F' R' U'; (try k_sweep); (try dsimp only))))))
  trivial
set_option maxHeartbeats 8000000 in
theorem rnames_ok {text : Str} {tx : Tok} {ws : List PW} {out : NOut} {q : Int}
  (B : Below A₀ base outer h₀) (F : Fr h₀ L s.heap m) (X : (Mine.K1 w.params).In h₀) (N : News h₀ L s.heap rest) (T : Top p loose mean mg mb h₀) (hk : cs.kind = .function)
  (XB : (Mine.K1 w.params).In base) (TB : Top p loose mean mg mb base) (D : KtsDicts (outer.filterMap (·.frame)) h₀)
  (hT : text.length ≤ 1000) (hsc : Scan text 0 ws) (hlen : (ws ++ [endW text]).length ≤ 1001)
  (hO : NamesT (ws ++ [endW text]) 0 out) (hP : PlaceN (ws ++ [endW text]) out q)
  (hd : dp + 100 < recursionLimit) (hu : un + 300 < cLine)
  (hret : ∀ g₀' tup vals n ex h' tk', KtsTurn (outer.filterMap (·.frame)) h₀ g₀' → Fr g₀' L h' m → News g₀' L h' ((tup, { cls := .type "tuple", data := .seq vals.toArray n }) :: (ex ++ rest)) → DatAll ex vals (ndat out q) → Below A₀ base outer g₀' → (Mine.K1 w.params).In g₀' → Top p loose mean mg mb g₀' → KtsDicts (outer.filterMap (·.frame)) g₀' → Q (.ref tup) { s with heap := h', toks := tk' }) :
  wpAny (model prog w) (ktrTop dp un gd cn cs L a ccd [] outer) (call (.ref 445) [.str text tx, .bool false]) Q E s := by
  refine wpAny_call ?_
  k_dflt (walk_at "k_ent")
  k_steps
  · (rename _ = NOut.err _ _ => oT)
    refine hret _ _ _ _ [] _ _ (by assumption) (by k_asm) (fin_news2 (by k_asm) (by assumption)) ?_ (by assumption) (by assumption) (by assumption) (by assumption)
    rw [oT]
    exact DatAll.cons (DatIn.str _ _) (DatAll.cons (DatIn.str _ _) (DatAll.cons (DatIn.int _ _) DatAll.nil))
  · (rename _ = NOut.names _ _ => oT)
    (rename PW.pl _ = q => hq)
    (rename StrsAre _ _ => stT)
    refine hret _ _ _ _ _ _ _ KtsTurn.refl (by k_asm) (fin_newsL (by k_asm) (by assumption)) ?_ (by assumption) (by assumption) (by assumption) (by assumption)
    rw [oT, ← hq]
    exact DatAll.cons (dat_list List.mem_cons_self stT) (DatAll.cons (DatIn.int _ _) DatAll.nil)
end
section
open PySem PySem.W PySem.Calls PyProof.Rows
theorem some_at {its : Array Value} {d : Int} (h0 : 0 ≤ d) (h1 : d < (its.size : Int)) : ∃ v, its[d.toNat]? = some v := ⟨_, Array.getElem?_eq_getElem (by omega : d.toNat < its.size)⟩
noncomputable abbrev tupD (l : List Value) (n : Nat) : Obj := { cls := .type "tuple", data := .seq l.toArray n }
theorem news_mv {h₀ h : Heap} {L : Addr} {l r : List (Addr × Obj)} {a : Addr × Obj} (N : News h₀ L h (l ++ a :: r)) : News h₀ L h (a :: (l ++ r)) := fun p hp => N p (by
  rcases List.mem_cons.mp hp with rfl | hp
  · exact List.mem_append_right _ List.mem_cons_self
  · rcases List.mem_append.mp hp with hp | hp
    · exact List.mem_append_left _ hp
    · exact List.mem_append_right _ (List.mem_cons_of_mem _ hp))
noncomputable def WSOME : List (Str × Str) := [(Str.ofString "Text", Str.ofString "Text"), (Str.ofString "q7", Str.ofString "q7"), (Str.ofString "\"a \"\"b\"", Str.ofString "a \"b"), (Str.ofString "[x y]", Str.ofString "x y"), (Str.ofString "\"NOT\"", Str.ofString "NOT"), (Str.ofString "key", Str.ofString "key"), (Str.ofString "`l`", Str.ofString "l")]
noncomputable def WNONE : List Str := [Str.ofString "NOT", Str.ofString "5", Str.ofString "'t'", Str.ofString "="]
theorem case12 {d : Int} (h0 : 0 ≤ d) (h1 : d < 12) : d = 0 ∨ d = 1 ∨ d = 2 ∨ d = 3 ∨ d = 4 ∨ d = 5 ∨ d = 6 ∨ d = 7 ∨ d = 8 ∨ d = 9 ∨ d = 10 ∨ d = 11 := by
  have key : ∀ n : Nat, n < 12 → ((n : Int) = 0 ∨ (n : Int) = 1 ∨ (n : Int) = 2 ∨ (n : Int) = 3 ∨ (n : Int) = 4 ∨ (n : Int) = 5 ∨ (n : Int) = 6 ∨ (n : Int) = 7 ∨ (n : Int) = 8 ∨ (n : Int) = 9 ∨ (n : Int) = 10 ∨ (n : Int) = 11) := by decide
  obtain ⟨n, rfl⟩ := Int.eq_ofNat_of_zero_le h0
  exact key n (Int.ofNat_lt.mp h1)
theorem mem_of_at {its : Array Value} {k : Nat} {v : Value} (h : its[k]? = some v) : v ∈ its.toList := by
  rw [Array.mem_toList_iff]
  exact Array.mem_of_getElem? h
theorem sub3 {a b : Addr × Obj} {l r : List (Addr × Obj)} (ha : a ∈ l) (hb : b ∈ l) (hr : ∀ p ∈ r, p ∈ l) : ∀ p ∈ a :: b :: r, p ∈ l := by
  intro p hp
  rcases List.mem_cons.mp hp with rfl | hp
  · exact ha
  · rcases List.mem_cons.mp hp with rfl | hp
    · exact hb
    · exact hr p hp
noncomputable def NSOME : List (Str × Str) := [(Str.ofString "10", Str.ofString "10"), (Str.ofString "-2", Str.ofString "-2"), (Str.ofString "+ 3", Str.ofString "3"), (Str.ofString "- 007", Str.ofString "-7"), (Str.ofString "0x1F", Str.ofString "31")]
noncomputable def NNONE : List (Str × Int) := [(Str.ofString "x", 0), (Str.ofString "-x", 1), (Str.ofString "", 0), (Str.ofString "+-1", 1)]
/-- one word of the menu: what is written, its name, free or not, the name as it is told -/
inductive WordK : Str → Value → Bool → Str → Prop
  | some {W v : Str} {t : Tok} : (W, v) ∈ WSOME → WordK W (.str v t) true v
  | left : WordK (Str.ofString "Left") .none true (Str.ofString "Left")
  | none {W : Str} : W ∈ WNONE → WordK W .none false (Str.ofString "Left")
inductive NumK : Str → Value → Int → Prop
  | some {W v : Str} {t : Tok} : (W, v) ∈ NSOME → NumK W (.str v t) 0
  | none {W : Str} {k : Int} : (W, k) ∈ NNONE → NumK W .none k
theorem wsome_l {W v : Str} (h : (W, v) ∈ WSOME) : W.length ≤ 7 ∧ v.length ≤ 7 := by
  have : ∀ q ∈ WSOME, q.1.length ≤ 7 ∧ q.2.length ≤ 7 := by decide +kernel
  exact this _ h
theorem wnone_l {W : Str} (h : W ∈ WNONE) : W.length ≤ 7 := by
  have : ∀ q ∈ WNONE, q.length ≤ 7 := by decide +kernel
  exact this _ h
theorem WordK.len {W vD : Str} {nv : Value} {fr : Bool} (h : WordK W nv fr vD) : W.length ≤ 7 ∧ vD.length ≤ 7 := by
  cases h with
  | some h => exact wsome_l h
  | left => decide +kernel
  | none h => exact ⟨wnone_l h, by decide +kernel⟩
theorem WordK.str {W v vD : Str} {t : Tok} {fr : Bool} (h : WordK W (.str v t) fr vD) : (W, v) ∈ WSOME ∧ fr = true ∧ vD = v := by
  cases h with
  | some h => exact ⟨h, rfl, rfl⟩
theorem WordK.non {W vD : Str} {fr : Bool} (h : WordK W .none fr vD) : W ∈ Str.ofString "Left" :: WNONE := by
  cases h with
  | left => exact List.mem_cons_self
  | none h => exact List.mem_cons_of_mem _ h
theorem nsome_len {W v : Str} (h : (W, v) ∈ NSOME) : W.length ≤ 6 ∧ v.length ≤ 6 := by
  have : ∀ q ∈ NSOME, q.1.length ≤ 6 ∧ q.2.length ≤ 6 := by decide +kernel
  exact this _ h
theorem nnone_len {W : Str} {k : Int} (h : (W, k) ∈ NNONE) : W.length ≤ 6 ∧ 0 ≤ k ∧ k ≤ 1 := by
  have : ∀ q ∈ NNONE, q.1.length ≤ 6 ∧ 0 ≤ q.2 ∧ q.2 ≤ 1 := by decide +kernel
  exact this _ h
theorem NumK.len {W : Str} {nv : Value} {k : Int} (h : NumK W nv k) : W.length ≤ 6 ∧ 0 ≤ k ∧ k ≤ 1 := by
  cases h with
  | some h => exact ⟨(nsome_len h).1, by decide, by decide⟩
  | none h => exact nnone_len h
theorem NumK.str {W v : Str} {t : Tok} {k : Int} (h : NumK W (.str v t) k) : (W, v) ∈ NSOME := by
  cases h with
  | some h => exact h
theorem NumK.non {W : Str} {k : Int} (h : NumK W .none k) : (W, k) ∈ NNONE := by
  cases h with
  | none h => exact h
section
variable {prog : Program} {w : World} {A : Around} {E : Value → Shared → Prop} {s : Shared} {Q : Value → Shared → Prop}
theorem is_no {v : Value} (b : Bool) (hb : (v = .none ∧ b = true) ∨ ((∃ x t, v = .str x t) ∧ b = false)) (h : Q (.bool b) s) : wpAny (model prog w) A (compareOp .Is v .none) Q E s := by
  rcases hb with ⟨rfl, rfl⟩ | ⟨⟨x, t, rfl⟩, rfl⟩
  · exact wpAny_is_self rfl h
  · exact wpAny_is_other rfl (by intro x; cases x) h
theorem num_is {W : Str} {nv : Value} {k : Int} (n : NumK W nv k) (h1 : nv = .none → Q (.bool true) s) (h2 : ∀ v t, nv = .str v t → v.length ≤ 6 → Q (.bool false) s) : wpAny (model prog w) A (compareOp .Is nv .none) Q E s := by
  cases n with
  | some h => exact is_no false (.inr ⟨⟨_, _, rfl⟩, rfl⟩) (h2 _ _ rfl (nsome_len h).2)
  | none h => exact is_no true (.inl ⟨rfl, rfl⟩) (h1 rfl)
theorem word_is {W vD : Str} {nv : Value} {fr : Bool} (n : WordK W nv fr vD) (h1 : nv = .none → Q (.bool true) s) (h2 : ∀ v t, nv = .str v t → v.length ≤ 7 → Q (.bool false) s) : wpAny (model prog w) A (compareOp .Is nv .none) Q E s := by
  cases n with
  | some h => exact is_no false (.inr ⟨⟨_, _, rfl⟩, rfl⟩) (h2 _ _ rfl (wsome_l h).2)
  | left => exact is_no true (.inl ⟨rfl, rfl⟩) (h1 rfl)
  | none h => exact is_no true (.inl ⟨rfl, rfl⟩) (h1 rfl)
end
theorem mem_eq {D : Addr} {o o' : Obj} {l : List (Addr × Obj)} (h : (D, o) ∈ l) (e : o = o') : (D, o') ∈ l := e ▸ h
theorem newTupO {M : Model} {A : Around} {E : Value → Shared → Prop} {s : Shared} {h₀ : Heap} {L : Addr} {m : Str → Option Value} {news : List (Addr × Obj)} {vs : List Value} {Q : Value → Shared → Prop} (F : Fr h₀ L s.heap m) (N : News h₀ L s.heap news)
    (h : ∀ D o h', o = ({ cls := .type "tuple", data := .seq vs.toArray } : Obj) → Fr h₀ L h' m → News h₀ L h' ((D, o) :: news) → (∀ p ∈ news, p.1 < D) → Q (.ref D) { s with heap := h' }) (hz : vs.length ≤ sizeLine) : wpAny M A (newTuple vs) Q E s :=
  kup_newTuple F N (fun D h' F' N' l => h D _ h' rfl F' N' l) hz
theorem news_pick {h₀ h : Heap} {L : Addr} {l r : List (Addr × Obj)} {b : Addr × Obj} (N : News h₀ L h l) (hb : b ∈ l) (hr : ∀ p ∈ r, p ∈ l) : ∀ a, a ∈ l → News h₀ L h (a :: b :: r) := fun _ ha => news_in N (sub3 ha hb hr)
theorem strs_mem {l : List Value} {ys : List Str} (h : StrsAre l ys) {v : Value} (hv : v ∈ l) : ∃ y t, v = .str y t ∧ y ∈ ys := by
  induction h with
  | nil => cases hv
  | cons x u _ ih =>
    rcases List.mem_cons.mp hv with rfl | hv
    · exact ⟨_, _, rfl, List.mem_cons_self⟩
    · obtain ⟨y, t, e, hy⟩ := ih hv
      exact ⟨y, t, e, List.mem_cons_of_mem _ hy⟩
end
section
variable {prog : Program} {w : World} {p : Program} {loose : List Str} {mean : ExcName → Option Value} {mg mb : Str → Option Value}
  {dp un : Nat} {gd : Option (List Code)} {cn : Str} {cs : Scope} {a : Addr} {ccd : Value} {cl : List (Str × Addr)} {outer : List Env} {A₀ : Around} {base h₀ : Heap} {L : Addr} {m : Str → Option Value} {s : Shared}
  {Q E : Value → Shared → Prop} {rest : List (Addr × Obj)}
theorem kw_Lw1 : True := by
  w_top off
  k_with_none
  k_with "~k_all" => (first | with_reducible assumption | exact ne_of_allLt (by with_reducible assumption) | assumption | exact ne_of_allLt (by assumption))
  k_with "~memr" => (first | (with_reducible exact List.mem_cons_self ..) | ((with_reducible refine List.mem_cons_of_mem _ ?_); walk_at "memr") | (with_reducible assumption) | ((with_reducible refine List.mem_append_left _ ?_); walk_at "memr") | ((with_reducible refine List.mem_append_right _ ?_); walk_at "memr"))
  k_with "~memd" => (first | exact List.mem_cons_self .. | (refine List.mem_cons_of_mem _ ?_; walk_at "memd") | (refine List.mem_append.mpr (Or.inl ?_); walk_at "memd") | (refine List.mem_append.mpr (Or.inr ?_); walk_at "memd") | assumption)
  k_with "~k_mem" => (first | walk_at "memr" | walk_at "memd")
  k_with "~k_in" => (first | with_reducible assumption | exact Frag.In.keeps (by with_reducible assumption) (Fr.keep (by with_reducible assumption)))
  k_with "~k_room" => (((try simp only [depth_under_make, depth_under_kw, depth_in1, depth_deeper, depth_caller]); (try dsimp only [ktrTop]); first | walk_at "room" | omega))
  k_with "~mul_fits" => (k_dflt (exact mulOk_fmod _ _))
  k_with "~exec Raise some none" => ((k_here; (with_reducible show wpAny _ _ (exec (Stmt.Raise (some (Expr.Call (Expr.Name (Str.ofString "ParseError") _) _ _ _)) none _) _) _ _ _); refine Raise_E rfl ?_))
  k_with "~RaiseBack" => ((k_dflt (refine' RaiseBack.intro ?k1_8 ?k2_8 ?k3_8 ?k4_8 ?k5_8 ?_; (case k1_8 => k_asm); (case k2_8 => k_asm); (case k3_8 => k_asm); (case k4_8 => k_is); (case k5_8 => k_mem))))
  k_with "~call ref" => ((k_here; (with_reducible show wpAny _ _ (call (Value.ref 91) _ _) _ _ _); k_dflt (refine' call_excE ?k1_9 ?k2_9 ?k3_9 ?k4_9 ?k5_9 ?k6_9 ?k7_9 ?k8_9 ?k9_9 ?_; (case k1_9 => k_asm); (case k2_9 => k_asm); (case k3_9 => k_asm); (case k4_9 => k_is); (case k5_9 => k_is); (case k6_9 => k_is); (case k7_9 => k_is); (case k8_9 => k_is); (case k9_9 => size_fits); k_whole; intro e' t' h' F' N' l1 l2 l3; (try k_lt l1); (try k_lt2 l2); (try k_lt l3); (try k_sweep); (try dsimp only); k_enter)))
  k_with "~instx" => (first | (refine' inst_exc ?N_10 ?h1_10 ?h2_10; (case N_10 => with_reducible assumption); (case h1_10 => walk_at "memr"); (case h2_10 => walk_at "memr")) | (refine' inst_exc2 ?N_10 ?h1_10 ?hc_10 ?hd_10 ?hn_10 ?h2_10; (case hc_10 => with_reducible assumption); (case hd_10 => with_reducible assumption); (case hn_10 => with_reducible assumption); (case N_10 => with_reducible assumption); (case h1_10 => walk_at "memr"); (case h2_10 => walk_at "memr")))
  k_with "~instn" => ((refine' InstAt.of_news ?N_11 ?h1_11 ?h2_11; (case N_11 => with_reducible assumption); (case h1_11 => walk_at "memr"); (case h2_11 => walk_at "memr")))
  k_with "~k_inst" => (first | walk_at "instn" | walk_at "instx")
  k_with "~setAttr ref" => ((k_here; k_dflt (first | (refine' setE_new ?k1_13 ?k2_13 ?k3_13 ?k4_13 ?k5_13 ?k6_13 ?k6b_13 ?k7_13 ?k8_13 ?k9_13 ?k10_13 ?_; (case k1_13 => k_asm); (case k2_13 => k_asm); (case k3_13 => k_asm); (case k4_13 => k_all); (case k5_13 => k_is); (case k6_13 => k_is); (case k6b_13 => exact rfl); (case k7_13 => k_is); (case k8_13 => k_is); (case k9_13 => k_put); (case k10_13 => exact Nat.le_of_ble_eq_true rfl); k_whole; intro h' dx' F' N' l1 l2; (try k_lt l1); (try k_lt2 l2); (try k_sweep); (try dsimp only)) | (refine' setE_old ?k1_13 ?k2_13 ?k3_13 ?k4_13 ?k5_13 ?k6_13 ?k7_13 ?k7b_13 ?k8_13 ?k9_13 ?k10_13 ?k11_13 ?k12_13 ?k13_13 ?_; (case k1_13 => k_asm); (case k2_13 => k_asm); (case k3_13 => k_asm); (case k4_13 => walk_at "instx"); (case k5_13 => exact rfl); (case k6_13 => k_is); (case k7_13 => k_is); (case k7b_13 => exact rfl); (case k8_13 => k_is); (case k9_13 => k_is); (case k10_13 => k_get); (case k11_13 => k_put); (case k12_13 => k_upd); (case k13_13 => exact Nat.le_of_ble_eq_true rfl); k_whole; intro h' F' N'; (try k_sweep); (try dsimp only)))))
  k_with "~getAttr ref" => ((k_here; k_dflt (refine' getE ?k1_14 ?k2_14 ?k3_14 ?k4_14 ?k5_14 ?k6_14 ?k7_14 ?k8_14 ?k9_14 ?k10_14 ?_; (case k1_14 => k_asm); (case k2_14 => k_asm); (case k3_14 => walk_at "instx"); (case k4_14 => k_is); (case k5_14 => k_is); (case k6_14 => k_is); (case k7_14 => k_is); (case k8_14 => k_is); (case k9_14 => k_get); (case k10_14 => k_handed); k_whole)))
  k_with "~getAttr ref" => ((k_here; k_dflt (refine' get_own ?k1_15 ?k2_15 ?k3_15 ?k4_15 ?k5_15 ?k6_15 ?k7_15 ?k8_15 ?k9_15 ?_; (case k1_15 => k_asm); (case k2_15 => k_asm); (case k3_15 => walk_at "instn"); (case k4_15 => k_is); (case k5_15 => k_is); (case k6_15 => k_is); (case k7_15 => k_is); (case k8_15 => k_get); (case k9_15 => k_handed); k_whole)))
  k_with "~leaving ref" => ((k_here; k_dflt (first | (refine' leave_raiseD2 ?k1_16 ?k2_16 ?k3_16 ?k4_16 ?_; (case k1_16 => k_asm); (case k2_16 => k_asm); (case k3_16 => k_asm); (case k4_16 => k_all); k_whole; intro h' R' U'; (try dsimp only at R' U' ⊢)) | (refine' leave_onD ?k1_16 ?k2_16 ?k3_16 ?k4_16 ?_; (case k3_16 => k_asm); (case k2_16 => k_asm); (case k1_16 => k_asm); (case k4_16 => k_asm); k_whole; intro h' R' U'; (try dsimp only at R' U' ⊢)))))
  k_with "~subscriptTail Attribute Name Attribute ref int" => ((k_here; (with_reducible show wpAny _ _ (subscriptTail _ _ (Value.ref _) (Value.int _ _)) _ _ _); k_dflt (refine' item_ctx ?k1_17 ?k2_17 ?k3_17 ?k4_17 ?k5_17 ?_ ?k6_17; (case k1_17 => k_asm); (case k2_17 => k_mem); (case k3_17 => omega); (case k4_17 => omega); (case k5_17 => k_asm); (case k6_17 => with_unfolding_all rfl); k_whole)))
  k_with "~compareOp Eq str str" => ((k_here; k_dflt (refine eq_ctx (by k_asm) ?_)))
  k_with "~compareOp NotEq str str" => ((k_here; k_dflt (refine ne_ctx (by k_asm) ?_)))
  k_with "~call type:str" => ((k_here; (with_reducible show wpAny _ _ (call (Value.type "str") [Value.int _ _]) _ _ _); k_dflt (refine PySem.P.str_of_int (log_small (by k_asm) (by k_asm)) ?_)))
  k_with "~compareOp NotIn str ref" => ((k_here; k_dflt (first | refine resv_notin (by k_asm) (by k_asm) (by k_asm) ?_ | refine joinw_notin (by k_asm) (by k_asm) (by k_asm) ?_)))
  k_with "~compareOp In str ref" => ((k_here; k_dflt (refine sgn2_in (by k_asm) (by k_asm) (by k_asm) ?_)))
  k_with "~size_fits" => (exact size1000 (by k_asm))
  k_with "~subscriptTail Attribute Name Attribute str int" => ((k_here; (with_reducible show wpAny _ _ (subscriptTail _ _ (Value.str _ _) (Value.int _ _)) _ _ _); k_dflt (refine item_sctx (by k_asm) (by k_asm) ?_)))
  k_with "~compareOp In str str" => ((k_here; k_dflt (refine in_sctx (by k_asm) ?_)))
  k_with "~call builtin:ord" => ((k_here; (with_reducible show wpAny _ _ (call (Value.builtin "ord") [Value.str ⟨#[_]⟩ _]) _ _ _); refine ord_sctx ?_))
  k_with "~TurnI" => ((k_dflt (refine' TurnI.intro ?k1_27 ?k2_27 ?k3_27 ?k4_27; (case k1_27 => k_asm); (case k2_27 => k_asm); (case k3_27 => exact rfl); (case k4_27 => (intro z hz; simp [hz])))))
  k_with "~call builtin:str.isascii" => ((k_here; refine isascii_ctx (by k_asm) ?_))
  k_with "~subscriptTail Name Name str int" => ((k_here; k_dflt (refine item_sctx (by k_asm) (by k_asm) ?_)))
  k_with "~subscriptTail Attribute Name Slice str ref" => ((walk_at "last subscriptTail"))
  k_with "~storeName" => ((k_here; k_dflt (refine' storeX_L ?F_31 ?N_31 ?_ ?a_31 ?b_31; (case F_31 => k_asm); (case N_31 => k_asm); (case a_31 => rfl); (case b_31 => rfl); k_whole; intro h' F' N'; (try k_sweep); (try dsimp only))))
  k_with "~execs cons" => ((k_here; k_fold))
  k_with "~room" => (first | exact room1 (by with_reducible assumption) (Nat.le_of_ble_eq_true rfl) | exact room0 (by with_reducible assumption) (Nat.le_of_ble_eq_true rfl) | exact room2 (by with_reducible assumption) (Nat.le_of_ble_eq_true rfl))
  k_with "~ltc" => (first | (with_reducible assumption) | (with_reducible exact And.left (by with_reducible assumption)) | (with_reducible exact And.left (And.right (by with_reducible assumption))) | (with_reducible exact And.left (And.right (And.right (by with_reducible assumption)))) | (with_reducible exact And.left (And.right (And.right (And.right (by with_reducible assumption))))) | (with_reducible exact And.left (And.right (And.right (And.right (And.right (by with_reducible assumption)))))) | (with_reducible exact And.left (And.right (And.right (And.right (And.right (And.right (by with_reducible assumption))))))) | (with_reducible exact And.left (And.right (And.right (And.right (And.right (And.right (And.right (by with_reducible assumption)))))))) | (with_reducible exact (And.right (by with_reducible assumption))) | (with_reducible exact (And.right (And.right (by with_reducible assumption)))))
  k_with "~k_ne" => (((refine neN ?_); (try dsimp only); first | (with_reducible exact Nat.ne_of_lt (by walk_at "ltc")) | (with_reducible exact Nat.ne_of_gt (by walk_at "ltc"))))
  trivial
set_option maxHeartbeats 8000000 in
theorem take_ok {src : Addr} {x y : Int} {tx ty : Tok} {n : Nat} {top : Int} {tt : Tok}
  (B : Below A₀ base outer h₀) (F : Fr h₀ L s.heap m) (X : (Mine.K1 w.params).In h₀) (N : News h₀ L s.heap ((src, listOf #[.int x tx, .int y ty] n) :: rest)) (T : Top p loose mean mg mb h₀) (hk : cs.kind = .function)
  (hr : ∀ p ∈ rest, p.1 ≠ src) (hx : 0 ≤ x) (hy0 : 0 ≤ y) (hy : y < 2147483647) (ht0 : 0 < top) (ht : top ≤ 100) (hd : dp + 1 < recursionLimit) (hu : un + 8 < cLine)
  (hret : ∀ d td x' y' tx' ty' n' h' tk', Fr h₀ L h' m → News h₀ L h' ((src, listOf #[.int x' tx', .int y' ty'] n') :: rest) → 0 ≤ x' → 0 ≤ y' → y' < 2147483647 → 0 ≤ d → d < top → Q (.int d td) { s with heap := h', toks := tk' }) :
  wpAny (model prog w) (ktrTop dp un gd cn cs L a ccd cl outer) (call (.ref 431) [.ref src, .int top tt]) Q E s := by
  refine wpAny_call ?_
  k_dflt ktr_enter
  k_steps
  all_goals (refine hret _ _ _ _ _ _ _ _ _ (by k_asm) (by k_asm) ?_ ?_ ?_ ?_ ?_)
  all_goals first | assumption | exact fdiv_b hx ht0 | exact (fmod_b _ (by omega)).1 | exact (fmod_b _ (by omega)).2
end
section
variable {prog : Program} {w : World} {p : Program} {loose : List Str} {mean : ExcName → Option Value} {mg mb : Str → Option Value}
  {dp un : Nat} {gd : Option (List Code)} {cn : Str} {cs : Scope} {a : Addr} {ccd : Value} {cl : List (Str × Addr)} {outer : List Env} {A₀ : Around} {base h₀ : Heap} {L : Addr} {m : Str → Option Value} {s : Shared}
  {Q E : Value → Shared → Prop} {rest : List (Addr × Obj)}
theorem kw_Lw2 : True := by
  w_top off
  k_with_none
  k_with "~k_all" => (first | with_reducible assumption | exact ne_of_allLt (by with_reducible assumption) | assumption | exact ne_of_allLt (by assumption))
  k_with "~memr" => (first | (with_reducible exact List.mem_cons_self ..) | ((with_reducible refine List.mem_cons_of_mem _ ?_); walk_at "memr") | (with_reducible assumption) | ((with_reducible refine List.mem_append_left _ ?_); walk_at "memr") | ((with_reducible refine List.mem_append_right _ ?_); walk_at "memr"))
  k_with "~memd" => (first | exact List.mem_cons_self .. | (refine List.mem_cons_of_mem _ ?_; walk_at "memd") | (refine List.mem_append.mpr (Or.inl ?_); walk_at "memd") | (refine List.mem_append.mpr (Or.inr ?_); walk_at "memd") | assumption)
  k_with "~k_mem" => (first | walk_at "memr" | walk_at "memd")
  k_with "~k_in" => (first | with_reducible assumption | exact Frag.In.keeps (by with_reducible assumption) (Fr.keep (by with_reducible assumption)))
  k_with "~k_room" => (((try simp only [depth_under_make, depth_under_kw, depth_in1, depth_deeper, depth_caller]); (try dsimp only [ktrTop]); first | walk_at "room" | omega))
  k_with "~mul_fits" => (k_dflt (exact mulOk_fmod _ _))
  k_with "~exec Raise some none" => ((k_here; (with_reducible show wpAny _ _ (exec (Stmt.Raise (some (Expr.Call (Expr.Name (Str.ofString "ParseError") _) _ _ _)) none _) _) _ _ _); refine Raise_E rfl ?_))
  k_with "~RaiseBack" => ((k_dflt (refine' RaiseBack.intro ?k1_8 ?k2_8 ?k3_8 ?k4_8 ?k5_8 ?_; (case k1_8 => k_asm); (case k2_8 => k_asm); (case k3_8 => k_asm); (case k4_8 => k_is); (case k5_8 => k_mem))))
  k_with "~call ref" => ((k_here; (with_reducible show wpAny _ _ (call (Value.ref 91) _ _) _ _ _); k_dflt (refine' call_excE ?k1_9 ?k2_9 ?k3_9 ?k4_9 ?k5_9 ?k6_9 ?k7_9 ?k8_9 ?k9_9 ?_; (case k1_9 => k_asm); (case k2_9 => k_asm); (case k3_9 => k_asm); (case k4_9 => k_is); (case k5_9 => k_is); (case k6_9 => k_is); (case k7_9 => k_is); (case k8_9 => k_is); (case k9_9 => size_fits); k_whole; intro e' t' h' F' N' l1 l2 l3; (try k_lt l1); (try k_lt2 l2); (try k_lt l3); (try k_sweep); (try dsimp only); k_enter)))
  k_with "~instx" => (first | (refine' inst_exc ?N_10 ?h1_10 ?h2_10; (case N_10 => with_reducible assumption); (case h1_10 => walk_at "memr"); (case h2_10 => walk_at "memr")) | (refine' inst_exc2 ?N_10 ?h1_10 ?hc_10 ?hd_10 ?hn_10 ?h2_10; (case hc_10 => with_reducible assumption); (case hd_10 => with_reducible assumption); (case hn_10 => with_reducible assumption); (case N_10 => with_reducible assumption); (case h1_10 => walk_at "memr"); (case h2_10 => walk_at "memr")))
  k_with "~instn" => ((refine' InstAt.of_news ?N_11 ?h1_11 ?h2_11; (case N_11 => with_reducible assumption); (case h1_11 => walk_at "memr"); (case h2_11 => walk_at "memr")))
  k_with "~k_inst" => (first | walk_at "instn" | walk_at "instx")
  k_with "~setAttr ref" => ((k_here; k_dflt (first | (refine' setE_new ?k1_13 ?k2_13 ?k3_13 ?k4_13 ?k5_13 ?k6_13 ?k6b_13 ?k7_13 ?k8_13 ?k9_13 ?k10_13 ?_; (case k1_13 => k_asm); (case k2_13 => k_asm); (case k3_13 => k_asm); (case k4_13 => k_all); (case k5_13 => k_is); (case k6_13 => k_is); (case k6b_13 => exact rfl); (case k7_13 => k_is); (case k8_13 => k_is); (case k9_13 => k_put); (case k10_13 => exact Nat.le_of_ble_eq_true rfl); k_whole; intro h' dx' F' N' l1 l2; (try k_lt l1); (try k_lt2 l2); (try k_sweep); (try dsimp only)) | (refine' setE_old ?k1_13 ?k2_13 ?k3_13 ?k4_13 ?k5_13 ?k6_13 ?k7_13 ?k7b_13 ?k8_13 ?k9_13 ?k10_13 ?k11_13 ?k12_13 ?k13_13 ?_; (case k1_13 => k_asm); (case k2_13 => k_asm); (case k3_13 => k_asm); (case k4_13 => walk_at "instx"); (case k5_13 => exact rfl); (case k6_13 => k_is); (case k7_13 => k_is); (case k7b_13 => exact rfl); (case k8_13 => k_is); (case k9_13 => k_is); (case k10_13 => k_get); (case k11_13 => k_put); (case k12_13 => k_upd); (case k13_13 => exact Nat.le_of_ble_eq_true rfl); k_whole; intro h' F' N'; (try k_sweep); (try dsimp only)))))
  k_with "~getAttr ref" => ((k_here; k_dflt (refine' getE ?k1_14 ?k2_14 ?k3_14 ?k4_14 ?k5_14 ?k6_14 ?k7_14 ?k8_14 ?k9_14 ?k10_14 ?_; (case k1_14 => k_asm); (case k2_14 => k_asm); (case k3_14 => walk_at "instx"); (case k4_14 => k_is); (case k5_14 => k_is); (case k6_14 => k_is); (case k7_14 => k_is); (case k8_14 => k_is); (case k9_14 => k_get); (case k10_14 => k_handed); k_whole)))
  k_with "~getAttr ref" => ((k_here; k_dflt (refine' get_own ?k1_15 ?k2_15 ?k3_15 ?k4_15 ?k5_15 ?k6_15 ?k7_15 ?k8_15 ?k9_15 ?_; (case k1_15 => k_asm); (case k2_15 => k_asm); (case k3_15 => walk_at "instn"); (case k4_15 => k_is); (case k5_15 => k_is); (case k6_15 => k_is); (case k7_15 => k_is); (case k8_15 => k_get); (case k9_15 => k_handed); k_whole)))
  k_with "~leaving ref" => ((k_here; k_dflt (first | (refine' leave_raiseD2 ?k1_16 ?k2_16 ?k3_16 ?k4_16 ?_; (case k1_16 => k_asm); (case k2_16 => k_asm); (case k3_16 => k_asm); (case k4_16 => k_all); k_whole; intro h' R' U'; (try dsimp only at R' U' ⊢)) | (refine' leave_onD ?k1_16 ?k2_16 ?k3_16 ?k4_16 ?_; (case k3_16 => k_asm); (case k2_16 => k_asm); (case k1_16 => k_asm); (case k4_16 => k_asm); k_whole; intro h' R' U'; (try dsimp only at R' U' ⊢)))))
  k_with "~subscriptTail Attribute Name Attribute ref int" => ((k_here; (with_reducible show wpAny _ _ (subscriptTail _ _ (Value.ref _) (Value.int _ _)) _ _ _); k_dflt (refine' item_ctx ?k1_17 ?k2_17 ?k3_17 ?k4_17 ?k5_17 ?_ ?k6_17; (case k1_17 => k_asm); (case k2_17 => k_mem); (case k3_17 => omega); (case k4_17 => omega); (case k5_17 => k_asm); (case k6_17 => with_unfolding_all rfl); k_whole)))
  k_with "~compareOp Eq str str" => ((k_here; k_dflt (refine eq_ctx (by k_asm) ?_)))
  k_with "~compareOp NotEq str str" => ((k_here; k_dflt (refine ne_ctx (by k_asm) ?_)))
  k_with "~call type:str" => ((k_here; (with_reducible show wpAny _ _ (call (Value.type "str") [Value.int _ _]) _ _ _); k_dflt (refine PySem.P.str_of_int (log_small (by k_asm) (by k_asm)) ?_)))
  k_with "~compareOp NotIn str ref" => ((k_here; k_dflt (first | refine resv_notin (by k_asm) (by k_asm) (by k_asm) ?_ | refine joinw_notin (by k_asm) (by k_asm) (by k_asm) ?_)))
  k_with "~compareOp In str ref" => ((k_here; k_dflt (refine sgn2_in (by k_asm) (by k_asm) (by k_asm) ?_)))
  k_with "~size_fits" => (exact size1000 (by k_asm))
  k_with "~subscriptTail Attribute Name Attribute str int" => ((k_here; (with_reducible show wpAny _ _ (subscriptTail _ _ (Value.str _ _) (Value.int _ _)) _ _ _); k_dflt (refine item_sctx (by k_asm) (by k_asm) ?_)))
  k_with "~compareOp In str str" => ((k_here; k_dflt (refine in_sctx (by k_asm) ?_)))
  k_with "~call builtin:ord" => ((k_here; (with_reducible show wpAny _ _ (call (Value.builtin "ord") [Value.str ⟨#[_]⟩ _]) _ _ _); refine ord_sctx ?_))
  k_with "~TurnI" => ((k_dflt (refine' TurnI.intro ?k1_27 ?k2_27 ?k3_27 ?k4_27; (case k1_27 => k_asm); (case k2_27 => k_asm); (case k3_27 => exact rfl); (case k4_27 => (intro z hz; simp [hz])))))
  k_with "~call builtin:str.isascii" => ((k_here; refine isascii_ctx (by k_asm) ?_))
  k_with "~subscriptTail Name Name str int" => ((k_here; k_dflt (refine item_sctx (by k_asm) (by k_asm) ?_)))
  k_with "~subscriptTail Attribute Name Slice str ref" => ((walk_at "last subscriptTail"))
  k_with "~storeName" => ((k_here; k_dflt (refine' storeX_L ?F_31 ?N_31 ?_ ?a_31 ?b_31; (case F_31 => k_asm); (case N_31 => k_asm); (case a_31 => rfl); (case b_31 => rfl); k_whole; intro h' F' N'; (try k_sweep); (try dsimp only))))
  k_with "~execs cons" => ((k_here; k_fold))
  k_with "~room" => (first | exact room1 (by with_reducible assumption) (Nat.le_of_ble_eq_true rfl) | exact room0 (by with_reducible assumption) (Nat.le_of_ble_eq_true rfl) | exact room2 (by with_reducible assumption) (Nat.le_of_ble_eq_true rfl))
  k_with "~ltc" => (first | (with_reducible assumption) | (with_reducible exact And.left (by with_reducible assumption)) | (with_reducible exact And.left (And.right (by with_reducible assumption))) | (with_reducible exact And.left (And.right (And.right (by with_reducible assumption)))) | (with_reducible exact And.left (And.right (And.right (And.right (by with_reducible assumption))))) | (with_reducible exact And.left (And.right (And.right (And.right (And.right (by with_reducible assumption)))))) | (with_reducible exact And.left (And.right (And.right (And.right (And.right (And.right (by with_reducible assumption))))))) | (with_reducible exact And.left (And.right (And.right (And.right (And.right (And.right (And.right (by with_reducible assumption)))))))) | (with_reducible exact (And.right (by with_reducible assumption))) | (with_reducible exact (And.right (And.right (by with_reducible assumption)))))
  k_with "~k_ne" => (((refine neN ?_); (try dsimp only); first | (with_reducible exact Nat.ne_of_lt (by walk_at "ltc")) | (with_reducible exact Nat.ne_of_gt (by walk_at "ltc"))))
  k_with "~call ref" => ((k_here; (with_reducible show wpAny _ _ (call (Value.ref 431) [Value.ref _, Value.int _ _]) _ _ _); k_dflt (refine' take_ok ?k1_94 ?k2_94 ?k3_94 ?k4_94 ?k5_94 ?k6_94 ?k7_94 ?k8_94 ?k9_94 ?k10_94 ?k11_94 ?k12_94 ?k13_94 ?k14_94 ?_; (case k1_94 => k_asm); (case k2_94 => k_asm); (case k3_94 => k_asm); (case k4_94 => k_asm); (case k5_94 => k_asm); (case k6_94 => first | exact rfl | assumption); (case k7_94 => k_all); (case k8_94 => assumption); (case k9_94 => assumption); (case k10_94 => assumption); (case k11_94 => omega); (case k12_94 => omega); (case k13_94 => k_room); (case k14_94 => first | walk_at "room" | ((try simp only [units_under_make, units_in1, units_deeper, Around.mark_units, units_caller]); (try dsimp only [ktrTop]); first | walk_at "room" | omega)); k_whole; intro dW tdW xW yW txW tyW nW hW tkW fW nwW x0W y0W y1W d0W d1W; (try k_sweep); (try dsimp only))))
  k_with "~subscriptTail" => ((k_here; (with_reducible show wpAny _ _ (subscriptTail _ _ (Value.ref _) (Value.int _ _)) _ _ _); k_dflt (obtain ⟨vW, hvW⟩ := some_at (by assumption) (by assumption); refine' item_ctx ?k1_95 ?k2_95 ?k3_95 ?k4_95 hvW ?_ ?k6_95; (case k1_95 => k_asm); (case k2_95 => k_mem); (case k3_95 => omega); (case k4_95 => omega); (case k6_95 => with_unfolding_all rfl); k_whole)))
  k_with "~call builtin:len" => ((k_here; (with_reducible show wpAny _ _ (call (Value.builtin "len") [Value.ref _]) _ _ _); k_dflt (refine' len_list ?k1_96 ?k2_96 ?_; (case k1_96 => exact News.isList (by k_asm) (by k_mem)); (case k2_96 => omega); k_whole)))
  trivial
set_option maxHeartbeats 8000000 in
theorem one_ok {src lt : Addr} {x y : Int} {tx ty : Tok} {n nt : Nat} {its : Array Value}
  (B : Below A₀ base outer h₀) (F : Fr h₀ L s.heap m) (X : (Mine.K1 w.params).In h₀) (N : News h₀ L s.heap ((src, listOf #[.int x tx, .int y ty] n) :: rest)) (T : Top p loose mean mg mb h₀) (hk : cs.kind = .function)
  (hr : ∀ p ∈ rest, p.1 ≠ src) (hx : 0 ≤ x) (hy0 : 0 ≤ y) (hy : y < 2147483647) (hl : (lt, listOf its nt) ∈ rest) (h0 : 0 < its.size) (h1 : its.size ≤ 100) (hd : dp + 3 < recursionLimit) (hu : un + 24 < cLine)
  (hret : ∀ v x' y' tx' ty' n' h' tk', Fr h₀ L h' m → News h₀ L h' ((src, listOf #[.int x' tx', .int y' ty'] n') :: rest) → 0 ≤ x' → 0 ≤ y' → y' < 2147483647 → v ∈ its.toList → Q v { s with heap := h', toks := tk' }) :
  wpAny (model prog w) (ktrTop dp un gd cn cs L a ccd cl outer) (call (.ref 438) [.ref src, .ref lt]) Q E s := by
  refine wpAny_call ?_
  k_dflt ktr_enter
  k_steps
  (rename (_ : Option Value) = some _ => hv)
  exact hret _ _ _ _ _ _ _ _ (by k_asm) (by k_asm) (by assumption) (by assumption) (by assumption) (mem_of_at hv)
end
section
variable {prog : Program} {w : World} {p : Program} {loose : List Str} {mean : ExcName → Option Value} {mg mb : Str → Option Value}
  {dp un : Nat} {gd : Option (List Code)} {cn : Str} {cs : Scope} {a : Addr} {ccd : Value} {cl : List (Str × Addr)} {outer : List Env} {A₀ : Around} {base h₀ : Heap} {L : Addr} {m : Str → Option Value} {s : Shared}
  {Q E : Value → Shared → Prop} {rest : List (Addr × Obj)}
theorem kw_Lw3 : True := by
  w_top off
  k_with_none
  k_with "~k_all" => (first | with_reducible assumption | exact ne_of_allLt (by with_reducible assumption) | assumption | exact ne_of_allLt (by assumption))
  k_with "~memr" => (first | (with_reducible exact List.mem_cons_self ..) | ((with_reducible refine List.mem_cons_of_mem _ ?_); walk_at "memr") | (with_reducible assumption) | ((with_reducible refine List.mem_append_left _ ?_); walk_at "memr") | ((with_reducible refine List.mem_append_right _ ?_); walk_at "memr"))
  k_with "~memd" => (first | exact List.mem_cons_self .. | (refine List.mem_cons_of_mem _ ?_; walk_at "memd") | (refine List.mem_append.mpr (Or.inl ?_); walk_at "memd") | (refine List.mem_append.mpr (Or.inr ?_); walk_at "memd") | assumption)
  k_with "~k_mem" => (first | walk_at "memr" | walk_at "memd")
  k_with "~k_in" => (first | with_reducible assumption | exact Frag.In.keeps (by with_reducible assumption) (Fr.keep (by with_reducible assumption)))
  k_with "~k_room" => (((try simp only [depth_under_make, depth_under_kw, depth_in1, depth_deeper, depth_caller]); (try dsimp only [ktrTop]); first | walk_at "room" | omega))
  k_with "~mul_fits" => (k_dflt (exact mulOk_fmod _ _))
  k_with "~exec Raise some none" => ((k_here; (with_reducible show wpAny _ _ (exec (Stmt.Raise (some (Expr.Call (Expr.Name (Str.ofString "ParseError") _) _ _ _)) none _) _) _ _ _); refine Raise_E rfl ?_))
  k_with "~RaiseBack" => ((k_dflt (refine' RaiseBack.intro ?k1_8 ?k2_8 ?k3_8 ?k4_8 ?k5_8 ?_; (case k1_8 => k_asm); (case k2_8 => k_asm); (case k3_8 => k_asm); (case k4_8 => k_is); (case k5_8 => k_mem))))
  k_with "~call ref" => ((k_here; (with_reducible show wpAny _ _ (call (Value.ref 91) _ _) _ _ _); k_dflt (refine' call_excE ?k1_9 ?k2_9 ?k3_9 ?k4_9 ?k5_9 ?k6_9 ?k7_9 ?k8_9 ?k9_9 ?_; (case k1_9 => k_asm); (case k2_9 => k_asm); (case k3_9 => k_asm); (case k4_9 => k_is); (case k5_9 => k_is); (case k6_9 => k_is); (case k7_9 => k_is); (case k8_9 => k_is); (case k9_9 => size_fits); k_whole; intro e' t' h' F' N' l1 l2 l3; (try k_lt l1); (try k_lt2 l2); (try k_lt l3); (try k_sweep); (try dsimp only); k_enter)))
  k_with "~instx" => (first | (refine' inst_exc ?N_10 ?h1_10 ?h2_10; (case N_10 => with_reducible assumption); (case h1_10 => walk_at "memr"); (case h2_10 => walk_at "memr")) | (refine' inst_exc2 ?N_10 ?h1_10 ?hc_10 ?hd_10 ?hn_10 ?h2_10; (case hc_10 => with_reducible assumption); (case hd_10 => with_reducible assumption); (case hn_10 => with_reducible assumption); (case N_10 => with_reducible assumption); (case h1_10 => walk_at "memr"); (case h2_10 => walk_at "memr")))
  k_with "~instn" => ((refine' InstAt.of_news ?N_11 ?h1_11 ?h2_11; (case N_11 => with_reducible assumption); (case h1_11 => walk_at "memr"); (case h2_11 => walk_at "memr")))
  k_with "~k_inst" => (first | walk_at "instn" | walk_at "instx")
  k_with "~setAttr ref" => ((k_here; k_dflt (first | (refine' setE_new ?k1_13 ?k2_13 ?k3_13 ?k4_13 ?k5_13 ?k6_13 ?k6b_13 ?k7_13 ?k8_13 ?k9_13 ?k10_13 ?_; (case k1_13 => k_asm); (case k2_13 => k_asm); (case k3_13 => k_asm); (case k4_13 => k_all); (case k5_13 => k_is); (case k6_13 => k_is); (case k6b_13 => exact rfl); (case k7_13 => k_is); (case k8_13 => k_is); (case k9_13 => k_put); (case k10_13 => exact Nat.le_of_ble_eq_true rfl); k_whole; intro h' dx' F' N' l1 l2; (try k_lt l1); (try k_lt2 l2); (try k_sweep); (try dsimp only)) | (refine' setE_old ?k1_13 ?k2_13 ?k3_13 ?k4_13 ?k5_13 ?k6_13 ?k7_13 ?k7b_13 ?k8_13 ?k9_13 ?k10_13 ?k11_13 ?k12_13 ?k13_13 ?_; (case k1_13 => k_asm); (case k2_13 => k_asm); (case k3_13 => k_asm); (case k4_13 => walk_at "instx"); (case k5_13 => exact rfl); (case k6_13 => k_is); (case k7_13 => k_is); (case k7b_13 => exact rfl); (case k8_13 => k_is); (case k9_13 => k_is); (case k10_13 => k_get); (case k11_13 => k_put); (case k12_13 => k_upd); (case k13_13 => exact Nat.le_of_ble_eq_true rfl); k_whole; intro h' F' N'; (try k_sweep); (try dsimp only)))))
  k_with "~getAttr ref" => ((k_here; k_dflt (refine' getE ?k1_14 ?k2_14 ?k3_14 ?k4_14 ?k5_14 ?k6_14 ?k7_14 ?k8_14 ?k9_14 ?k10_14 ?_; (case k1_14 => k_asm); (case k2_14 => k_asm); (case k3_14 => walk_at "instx"); (case k4_14 => k_is); (case k5_14 => k_is); (case k6_14 => k_is); (case k7_14 => k_is); (case k8_14 => k_is); (case k9_14 => k_get); (case k10_14 => k_handed); k_whole)))
  k_with "~getAttr ref" => ((k_here; k_dflt (refine' get_own ?k1_15 ?k2_15 ?k3_15 ?k4_15 ?k5_15 ?k6_15 ?k7_15 ?k8_15 ?k9_15 ?_; (case k1_15 => k_asm); (case k2_15 => k_asm); (case k3_15 => walk_at "instn"); (case k4_15 => k_is); (case k5_15 => k_is); (case k6_15 => k_is); (case k7_15 => k_is); (case k8_15 => k_get); (case k9_15 => k_handed); k_whole)))
  k_with "~leaving ref" => ((k_here; k_dflt (first | (refine' leave_raiseD2 ?k1_16 ?k2_16 ?k3_16 ?k4_16 ?_; (case k1_16 => k_asm); (case k2_16 => k_asm); (case k3_16 => k_asm); (case k4_16 => k_all); k_whole; intro h' R' U'; (try dsimp only at R' U' ⊢)) | (refine' leave_onD ?k1_16 ?k2_16 ?k3_16 ?k4_16 ?_; (case k3_16 => k_asm); (case k2_16 => k_asm); (case k1_16 => k_asm); (case k4_16 => k_asm); k_whole; intro h' R' U'; (try dsimp only at R' U' ⊢)))))
  k_with "~subscriptTail Attribute Name Attribute ref int" => ((k_here; (with_reducible show wpAny _ _ (subscriptTail _ _ (Value.ref _) (Value.int _ _)) _ _ _); k_dflt (refine' item_ctx ?k1_17 ?k2_17 ?k3_17 ?k4_17 ?k5_17 ?_ ?k6_17; (case k1_17 => k_asm); (case k2_17 => k_mem); (case k3_17 => omega); (case k4_17 => omega); (case k5_17 => k_asm); (case k6_17 => with_unfolding_all rfl); k_whole)))
  k_with "~compareOp Eq str str" => ((k_here; k_dflt (refine eq_ctx (by k_asm) ?_)))
  k_with "~compareOp NotEq str str" => ((k_here; k_dflt (refine ne_ctx (by k_asm) ?_)))
  k_with "~call type:str" => ((k_here; (with_reducible show wpAny _ _ (call (Value.type "str") [Value.int _ _]) _ _ _); k_dflt (refine PySem.P.str_of_int (log_small (by k_asm) (by k_asm)) ?_)))
  k_with "~compareOp NotIn str ref" => ((k_here; k_dflt (first | refine resv_notin (by k_asm) (by k_asm) (by k_asm) ?_ | refine joinw_notin (by k_asm) (by k_asm) (by k_asm) ?_)))
  k_with "~compareOp In str ref" => ((k_here; k_dflt (refine sgn2_in (by k_asm) (by k_asm) (by k_asm) ?_)))
  k_with "~size_fits" => (exact size1000 (by k_asm))
  k_with "~subscriptTail Attribute Name Attribute str int" => ((k_here; (with_reducible show wpAny _ _ (subscriptTail _ _ (Value.str _ _) (Value.int _ _)) _ _ _); k_dflt (refine item_sctx (by k_asm) (by k_asm) ?_)))
  k_with "~compareOp In str str" => ((k_here; k_dflt (refine in_sctx (by k_asm) ?_)))
  k_with "~call builtin:ord" => ((k_here; (with_reducible show wpAny _ _ (call (Value.builtin "ord") [Value.str ⟨#[_]⟩ _]) _ _ _); refine ord_sctx ?_))
  k_with "~TurnI" => ((k_dflt (refine' TurnI.intro ?k1_27 ?k2_27 ?k3_27 ?k4_27; (case k1_27 => k_asm); (case k2_27 => k_asm); (case k3_27 => exact rfl); (case k4_27 => (intro z hz; simp [hz])))))
  k_with "~call builtin:str.isascii" => ((k_here; refine isascii_ctx (by k_asm) ?_))
  k_with "~subscriptTail Name Name str int" => ((k_here; k_dflt (refine item_sctx (by k_asm) (by k_asm) ?_)))
  k_with "~subscriptTail Attribute Name Slice str ref" => ((walk_at "last subscriptTail"))
  k_with "~storeName" => ((k_here; k_dflt (refine' storeX_L ?F_31 ?N_31 ?_ ?a_31 ?b_31; (case F_31 => k_asm); (case N_31 => k_asm); (case a_31 => rfl); (case b_31 => rfl); k_whole; intro h' F' N'; (try k_sweep); (try dsimp only))))
  k_with "~execs cons" => ((k_here; k_fold))
  k_with "~room" => (first | exact room1 (by with_reducible assumption) (Nat.le_of_ble_eq_true rfl) | exact room0 (by with_reducible assumption) (Nat.le_of_ble_eq_true rfl) | exact room2 (by with_reducible assumption) (Nat.le_of_ble_eq_true rfl))
  k_with "~ltc" => (first | (with_reducible assumption) | (with_reducible exact And.left (by with_reducible assumption)) | (with_reducible exact And.left (And.right (by with_reducible assumption))) | (with_reducible exact And.left (And.right (And.right (by with_reducible assumption)))) | (with_reducible exact And.left (And.right (And.right (And.right (by with_reducible assumption))))) | (with_reducible exact And.left (And.right (And.right (And.right (And.right (by with_reducible assumption)))))) | (with_reducible exact And.left (And.right (And.right (And.right (And.right (And.right (by with_reducible assumption))))))) | (with_reducible exact And.left (And.right (And.right (And.right (And.right (And.right (And.right (by with_reducible assumption)))))))) | (with_reducible exact (And.right (by with_reducible assumption))) | (with_reducible exact (And.right (And.right (by with_reducible assumption)))))
  k_with "~k_ne" => (((refine neN ?_); (try dsimp only); first | (with_reducible exact Nat.ne_of_lt (by walk_at "ltc")) | (with_reducible exact Nat.ne_of_gt (by walk_at "ltc"))))
  k_with "~k_all" => (first | assumption | ((refine List.forall_mem_cons.mpr ⟨?_, ?_⟩); (focus (show _ ≠ _; k_ne)); k_all))
  k_with "~call ref" => ((k_here; (with_reducible show wpAny _ _ (call (Value.ref 438) _) _ _ _); (with_reducible rename News _ _ _ _ => nV); (first | (have nV' := news_mv (l := [_, _, _, _, _, _, _, _, _, _, _, _, _]) nV) | (have nV' := news_mv (l := [_, _, _, _, _, _, _, _, _, _]) nV)); (simp only [List.cons_append, List.nil_append] at nV'); clear nV; k_dflt (refine' one_ok ?k1_98 ?k2_98 ?k3_98 ?k4_98 ?k5_98 ?k6_98 ?k7_98 ?k8_98 ?k9_98 ?k10_98 ?k11_98 ?k12_98 ?k13_98 ?k14_98 ?k15_98 ?_; (case k1_98 => k_asm); (case k2_98 => k_asm); (case k3_98 => k_asm); (case k4_98 => k_asm); (case k5_98 => k_asm); (case k6_98 => first | exact rfl | assumption); (case k11_98 => k_mem); (case k7_98 => k_all); (case k8_98 => assumption); (case k9_98 => assumption); (case k10_98 => assumption); (case k12_98 => exact Nat.le_of_ble_eq_true rfl); (case k13_98 => exact Nat.le_of_ble_eq_true rfl); (case k14_98 => k_room); (case k15_98 => first | walk_at "room" | ((try simp only [units_under_make, units_in1, units_deeper, Around.mark_units, units_caller]); (try dsimp only [ktrTop]); first | walk_at "room" | omega)); k_whole; intro vW xW yW txW tyW nW hW tkW fW nwW x0W y0W y1W hvW; (try k_sweep); (try dsimp only))))
  k_with "~newTuple" => ((k_here; k_dflt (refine' newTupO ?F_99 ?N_99 ?_ ?z_99; (case F_99 => k_asm); (case N_99 => k_asm); (case z_99 => kmk_size)); intro D' o' h' ho' F' N' l1; (try k_lt l1); (try k_sweep); (try dsimp only)))
  trivial
set_option maxHeartbeats 8000000 in
theorem word_ok {src : Addr} {x y : Int} {tx ty : Tok} {n : Nat}
  (B : Below A₀ base outer h₀) (F : Fr h₀ L s.heap m) (X : (Mine.K1 w.params).In h₀) (N : News h₀ L s.heap ((src, listOf #[.int x tx, .int y ty] n) :: rest)) (T : Top p loose mean mg mb h₀) (hk : cs.kind = .function)
  (hr : ∀ p ∈ rest, p.1 ≠ src) (hx : 0 ≤ x) (hy0 : 0 ≤ y) (hy : y < 2147483647) (hd : dp + 5 < recursionLimit) (hu : un + 40 < cLine)
  (hret : ∀ W nv fr vD tup tW nn x' y' tx' ty' n' h' tk', WordK W nv fr vD → W.length ≤ 7 → Fr h₀ L h' m → News h₀ L h' ((tup, tupD [.str W tW, nv, .bool fr] nn) :: (src, listOf #[.int x' tx', .int y' ty'] n') :: rest) → 0 ≤ x' → 0 ≤ y' → y' < 2147483647 → Q (.ref tup) { s with heap := h', toks := tk' }) :
  wpAny (model prog w) (ktrTop dp un gd cn cs L a ccd cl outer) (call (.ref 452) [.ref src]) Q E s := by
  refine wpAny_call ?_
  k_dflt ktr_enter
  k_steps
  (rename _ ∈ Array.toList _ => hv)
  (simp only [List.mem_cons, List.not_mem_nil, or_false] at hv)
  (with_reducible rename News _ _ _ _ => nV)
  have nW := news_pick (r := rest) nV (b := (src, listOf #[.int _ _, .int _ _] _)) (by walk_at "memr") (by intro p hp; repeat (first | exact hp | refine List.mem_cons_of_mem _ ?_))
  rcases hv with rfl | rfl | rfl | rfl | rfl | rfl | rfl | rfl | rfl | rfl | rfl | rfl
  all_goals (refine' hret _ _ _ _ _ _ _ _ _ _ _ _ _ _ ?w ?lw (by k_asm) (nW _ ?nw) ?h1 ?h2 ?h3; (case nw => first | (refine' mem_eq ?mh ?mo; (case mh => walk_at "memr"); (case mo => assumption)) | walk_at "memr"); (case w => first | (refine WordK.some ?_; (unfold WSOME; simp; done)) | (refine WordK.none ?_; (unfold WNONE; simp; done)) | exact WordK.left); (case lw => exact Nat.le_of_ble_eq_true (by decide +kernel)); (case h1 => assumption); (case h2 => assumption); (case h3 => assumption))
end
section
variable {prog : Program} {w : World} {p : Program} {loose : List Str} {mean : ExcName → Option Value} {mg mb : Str → Option Value}
  {dp un : Nat} {gd : Option (List Code)} {cn : Str} {cs : Scope} {a : Addr} {ccd : Value} {cl : List (Str × Addr)} {outer : List Env} {A₀ : Around} {base h₀ : Heap} {L : Addr} {m : Str → Option Value} {s : Shared}
  {Q E : Value → Shared → Prop} {rest : List (Addr × Obj)}
theorem kw_Lw4 : True := by
  w_top off
  k_with_none
  k_with "~k_all" => (first | with_reducible assumption | exact ne_of_allLt (by with_reducible assumption) | assumption | exact ne_of_allLt (by assumption))
  k_with "~memr" => (first | (with_reducible exact List.mem_cons_self ..) | ((with_reducible refine List.mem_cons_of_mem _ ?_); walk_at "memr") | (with_reducible assumption) | ((with_reducible refine List.mem_append_left _ ?_); walk_at "memr") | ((with_reducible refine List.mem_append_right _ ?_); walk_at "memr"))
  k_with "~memd" => (first | exact List.mem_cons_self .. | (refine List.mem_cons_of_mem _ ?_; walk_at "memd") | (refine List.mem_append.mpr (Or.inl ?_); walk_at "memd") | (refine List.mem_append.mpr (Or.inr ?_); walk_at "memd") | assumption)
  k_with "~k_mem" => (first | walk_at "memr" | walk_at "memd")
  k_with "~k_in" => (first | with_reducible assumption | exact Frag.In.keeps (by with_reducible assumption) (Fr.keep (by with_reducible assumption)))
  k_with "~k_room" => (((try simp only [depth_under_make, depth_under_kw, depth_in1, depth_deeper, depth_caller]); (try dsimp only [ktrTop]); first | walk_at "room" | omega))
  k_with "~mul_fits" => (k_dflt (exact mulOk_fmod _ _))
  k_with "~exec Raise some none" => ((k_here; (with_reducible show wpAny _ _ (exec (Stmt.Raise (some (Expr.Call (Expr.Name (Str.ofString "ParseError") _) _ _ _)) none _) _) _ _ _); refine Raise_E rfl ?_))
  k_with "~RaiseBack" => ((k_dflt (refine' RaiseBack.intro ?k1_8 ?k2_8 ?k3_8 ?k4_8 ?k5_8 ?_; (case k1_8 => k_asm); (case k2_8 => k_asm); (case k3_8 => k_asm); (case k4_8 => k_is); (case k5_8 => k_mem))))
  k_with "~call ref" => ((k_here; (with_reducible show wpAny _ _ (call (Value.ref 91) _ _) _ _ _); k_dflt (refine' call_excE ?k1_9 ?k2_9 ?k3_9 ?k4_9 ?k5_9 ?k6_9 ?k7_9 ?k8_9 ?k9_9 ?_; (case k1_9 => k_asm); (case k2_9 => k_asm); (case k3_9 => k_asm); (case k4_9 => k_is); (case k5_9 => k_is); (case k6_9 => k_is); (case k7_9 => k_is); (case k8_9 => k_is); (case k9_9 => size_fits); k_whole; intro e' t' h' F' N' l1 l2 l3; (try k_lt l1); (try k_lt2 l2); (try k_lt l3); (try k_sweep); (try dsimp only); k_enter)))
  k_with "~instx" => (first | (refine' inst_exc ?N_10 ?h1_10 ?h2_10; (case N_10 => with_reducible assumption); (case h1_10 => walk_at "memr"); (case h2_10 => walk_at "memr")) | (refine' inst_exc2 ?N_10 ?h1_10 ?hc_10 ?hd_10 ?hn_10 ?h2_10; (case hc_10 => with_reducible assumption); (case hd_10 => with_reducible assumption); (case hn_10 => with_reducible assumption); (case N_10 => with_reducible assumption); (case h1_10 => walk_at "memr"); (case h2_10 => walk_at "memr")))
  k_with "~instn" => ((refine' InstAt.of_news ?N_11 ?h1_11 ?h2_11; (case N_11 => with_reducible assumption); (case h1_11 => walk_at "memr"); (case h2_11 => walk_at "memr")))
  k_with "~k_inst" => (first | walk_at "instn" | walk_at "instx")
  k_with "~setAttr ref" => ((k_here; k_dflt (first | (refine' setE_new ?k1_13 ?k2_13 ?k3_13 ?k4_13 ?k5_13 ?k6_13 ?k6b_13 ?k7_13 ?k8_13 ?k9_13 ?k10_13 ?_; (case k1_13 => k_asm); (case k2_13 => k_asm); (case k3_13 => k_asm); (case k4_13 => k_all); (case k5_13 => k_is); (case k6_13 => k_is); (case k6b_13 => exact rfl); (case k7_13 => k_is); (case k8_13 => k_is); (case k9_13 => k_put); (case k10_13 => exact Nat.le_of_ble_eq_true rfl); k_whole; intro h' dx' F' N' l1 l2; (try k_lt l1); (try k_lt2 l2); (try k_sweep); (try dsimp only)) | (refine' setE_old ?k1_13 ?k2_13 ?k3_13 ?k4_13 ?k5_13 ?k6_13 ?k7_13 ?k7b_13 ?k8_13 ?k9_13 ?k10_13 ?k11_13 ?k12_13 ?k13_13 ?_; (case k1_13 => k_asm); (case k2_13 => k_asm); (case k3_13 => k_asm); (case k4_13 => walk_at "instx"); (case k5_13 => exact rfl); (case k6_13 => k_is); (case k7_13 => k_is); (case k7b_13 => exact rfl); (case k8_13 => k_is); (case k9_13 => k_is); (case k10_13 => k_get); (case k11_13 => k_put); (case k12_13 => k_upd); (case k13_13 => exact Nat.le_of_ble_eq_true rfl); k_whole; intro h' F' N'; (try k_sweep); (try dsimp only)))))
  k_with "~getAttr ref" => ((k_here; k_dflt (refine' getE ?k1_14 ?k2_14 ?k3_14 ?k4_14 ?k5_14 ?k6_14 ?k7_14 ?k8_14 ?k9_14 ?k10_14 ?_; (case k1_14 => k_asm); (case k2_14 => k_asm); (case k3_14 => walk_at "instx"); (case k4_14 => k_is); (case k5_14 => k_is); (case k6_14 => k_is); (case k7_14 => k_is); (case k8_14 => k_is); (case k9_14 => k_get); (case k10_14 => k_handed); k_whole)))
  k_with "~getAttr ref" => ((k_here; k_dflt (refine' get_own ?k1_15 ?k2_15 ?k3_15 ?k4_15 ?k5_15 ?k6_15 ?k7_15 ?k8_15 ?k9_15 ?_; (case k1_15 => k_asm); (case k2_15 => k_asm); (case k3_15 => walk_at "instn"); (case k4_15 => k_is); (case k5_15 => k_is); (case k6_15 => k_is); (case k7_15 => k_is); (case k8_15 => k_get); (case k9_15 => k_handed); k_whole)))
  k_with "~leaving ref" => ((k_here; k_dflt (first | (refine' leave_raiseD2 ?k1_16 ?k2_16 ?k3_16 ?k4_16 ?_; (case k1_16 => k_asm); (case k2_16 => k_asm); (case k3_16 => k_asm); (case k4_16 => k_all); k_whole; intro h' R' U'; (try dsimp only at R' U' ⊢)) | (refine' leave_onD ?k1_16 ?k2_16 ?k3_16 ?k4_16 ?_; (case k3_16 => k_asm); (case k2_16 => k_asm); (case k1_16 => k_asm); (case k4_16 => k_asm); k_whole; intro h' R' U'; (try dsimp only at R' U' ⊢)))))
  k_with "~subscriptTail Attribute Name Attribute ref int" => ((k_here; (with_reducible show wpAny _ _ (subscriptTail _ _ (Value.ref _) (Value.int _ _)) _ _ _); k_dflt (refine' item_ctx ?k1_17 ?k2_17 ?k3_17 ?k4_17 ?k5_17 ?_ ?k6_17; (case k1_17 => k_asm); (case k2_17 => k_mem); (case k3_17 => omega); (case k4_17 => omega); (case k5_17 => k_asm); (case k6_17 => with_unfolding_all rfl); k_whole)))
  k_with "~compareOp Eq str str" => ((k_here; k_dflt (refine eq_ctx (by k_asm) ?_)))
  k_with "~compareOp NotEq str str" => ((k_here; k_dflt (refine ne_ctx (by k_asm) ?_)))
  k_with "~call type:str" => ((k_here; (with_reducible show wpAny _ _ (call (Value.type "str") [Value.int _ _]) _ _ _); k_dflt (refine PySem.P.str_of_int (log_small (by k_asm) (by k_asm)) ?_)))
  k_with "~compareOp NotIn str ref" => ((k_here; k_dflt (first | refine resv_notin (by k_asm) (by k_asm) (by k_asm) ?_ | refine joinw_notin (by k_asm) (by k_asm) (by k_asm) ?_)))
  k_with "~compareOp In str ref" => ((k_here; k_dflt (refine sgn2_in (by k_asm) (by k_asm) (by k_asm) ?_)))
  k_with "~size_fits" => (exact size1000 (by k_asm))
  k_with "~subscriptTail Attribute Name Attribute str int" => ((k_here; (with_reducible show wpAny _ _ (subscriptTail _ _ (Value.str _ _) (Value.int _ _)) _ _ _); k_dflt (refine item_sctx (by k_asm) (by k_asm) ?_)))
  k_with "~compareOp In str str" => ((k_here; k_dflt (refine in_sctx (by k_asm) ?_)))
  k_with "~call builtin:ord" => ((k_here; (with_reducible show wpAny _ _ (call (Value.builtin "ord") [Value.str ⟨#[_]⟩ _]) _ _ _); refine ord_sctx ?_))
  k_with "~TurnI" => ((k_dflt (refine' TurnI.intro ?k1_27 ?k2_27 ?k3_27 ?k4_27; (case k1_27 => k_asm); (case k2_27 => k_asm); (case k3_27 => exact rfl); (case k4_27 => (intro z hz; simp [hz])))))
  k_with "~call builtin:str.isascii" => ((k_here; refine isascii_ctx (by k_asm) ?_))
  k_with "~subscriptTail Name Name str int" => ((k_here; k_dflt (refine item_sctx (by k_asm) (by k_asm) ?_)))
  k_with "~subscriptTail Attribute Name Slice str ref" => ((walk_at "last subscriptTail"))
  k_with "~storeName" => ((k_here; k_dflt (refine' storeX_L ?F_31 ?N_31 ?_ ?a_31 ?b_31; (case F_31 => k_asm); (case N_31 => k_asm); (case a_31 => rfl); (case b_31 => rfl); k_whole; intro h' F' N'; (try k_sweep); (try dsimp only))))
  k_with "~execs cons" => ((k_here; k_fold))
  k_with "~room" => (first | exact room1 (by with_reducible assumption) (Nat.le_of_ble_eq_true rfl) | exact room0 (by with_reducible assumption) (Nat.le_of_ble_eq_true rfl) | exact room2 (by with_reducible assumption) (Nat.le_of_ble_eq_true rfl))
  k_with "~ltc" => (first | (with_reducible assumption) | (with_reducible exact And.left (by with_reducible assumption)) | (with_reducible exact And.left (And.right (by with_reducible assumption))) | (with_reducible exact And.left (And.right (And.right (by with_reducible assumption)))) | (with_reducible exact And.left (And.right (And.right (And.right (by with_reducible assumption))))) | (with_reducible exact And.left (And.right (And.right (And.right (And.right (by with_reducible assumption)))))) | (with_reducible exact And.left (And.right (And.right (And.right (And.right (And.right (by with_reducible assumption))))))) | (with_reducible exact And.left (And.right (And.right (And.right (And.right (And.right (And.right (by with_reducible assumption)))))))) | (with_reducible exact (And.right (by with_reducible assumption))) | (with_reducible exact (And.right (And.right (by with_reducible assumption)))))
  k_with "~k_ne" => (((refine neN ?_); (try dsimp only); first | (with_reducible exact Nat.ne_of_lt (by walk_at "ltc")) | (with_reducible exact Nat.ne_of_gt (by walk_at "ltc"))))
  k_with "~k_all" => (first | assumption | ((refine List.forall_mem_cons.mpr ⟨?_, ?_⟩); (focus (show _ ≠ _; k_ne)); k_all))
  k_with "~call ref" => ((k_here; (with_reducible show wpAny _ _ (call (Value.ref 438) _) _ _ _); (with_reducible rename News _ _ _ _ => nV); (first | (have nV' := news_mv (l := [_, _, _, _, _, _, _, _, _, _, _, _, _]) nV) | (have nV' := news_mv (l := [_, _, _, _, _, _, _, _, _, _]) nV)); (simp only [List.cons_append, List.nil_append] at nV'); clear nV; k_dflt (refine' one_ok ?k1_98 ?k2_98 ?k3_98 ?k4_98 ?k5_98 ?k6_98 ?k7_98 ?k8_98 ?k9_98 ?k10_98 ?k11_98 ?k12_98 ?k13_98 ?k14_98 ?k15_98 ?_; (case k1_98 => k_asm); (case k2_98 => k_asm); (case k3_98 => k_asm); (case k4_98 => k_asm); (case k5_98 => k_asm); (case k6_98 => first | exact rfl | assumption); (case k11_98 => k_mem); (case k7_98 => k_all); (case k8_98 => assumption); (case k9_98 => assumption); (case k10_98 => assumption); (case k12_98 => exact Nat.le_of_ble_eq_true rfl); (case k13_98 => exact Nat.le_of_ble_eq_true rfl); (case k14_98 => k_room); (case k15_98 => first | walk_at "room" | ((try simp only [units_under_make, units_in1, units_deeper, Around.mark_units, units_caller]); (try dsimp only [ktrTop]); first | walk_at "room" | omega)); k_whole; intro vW xW yW txW tyW nW hW tkW fW nwW x0W y0W y1W hvW; (try k_sweep); (try dsimp only))))
  k_with "~newTuple" => ((k_here; k_dflt (refine' newTupO ?F_99 ?N_99 ?_ ?z_99; (case F_99 => k_asm); (case N_99 => k_asm); (case z_99 => kmk_size)); intro D' o' h' ho' F' N' l1; (try k_lt l1); (try k_sweep); (try dsimp only)))
  trivial
set_option maxHeartbeats 8000000 in
theorem number_ok {src : Addr} {x y : Int} {tx ty : Tok} {n : Nat}
  (B : Below A₀ base outer h₀) (F : Fr h₀ L s.heap m) (X : (Mine.K1 w.params).In h₀) (N : News h₀ L s.heap ((src, listOf #[.int x tx, .int y ty] n) :: rest)) (T : Top p loose mean mg mb h₀) (hk : cs.kind = .function)
  (hr : ∀ p ∈ rest, p.1 ≠ src) (hx : 0 ≤ x) (hy0 : 0 ≤ y) (hy : y < 2147483647) (hd : dp + 5 < recursionLimit) (hu : un + 40 < cLine)
  (hret : ∀ W nv k tup tW tk nn x' y' tx' ty' n' h' tk', NumK W nv k → W.length ≤ 6 → Fr h₀ L h' m → News h₀ L h' ((tup, tupD [.str W tW, nv, .int k tk] nn) :: (src, listOf #[.int x' tx', .int y' ty'] n') :: rest) → 0 ≤ x' → 0 ≤ y' → y' < 2147483647 → Q (.ref tup) { s with heap := h', toks := tk' }) :
  wpAny (model prog w) (ktrTop dp un gd cn cs L a ccd cl outer) (call (.ref 466) [.ref src]) Q E s := by
  refine wpAny_call ?_
  k_dflt ktr_enter
  k_steps
  (rename _ ∈ Array.toList _ => hv)
  (simp only [List.mem_cons, List.not_mem_nil, or_false] at hv)
  (with_reducible rename News _ _ _ _ => nV)
  have nW := news_pick (r := rest) nV (b := (src, listOf #[.int _ _, .int _ _] _)) (by walk_at "memr") (by intro p hp; repeat (first | exact hp | refine List.mem_cons_of_mem _ ?_))
  rcases hv with rfl | rfl | rfl | rfl | rfl | rfl | rfl | rfl | rfl
  all_goals (refine' hret _ _ _ _ _ _ _ _ _ _ _ _ _ _ ?w ?lw (by k_asm) (nW _ ?nw) ?h1 ?h2 ?h3; (case nw => first | (refine' mem_eq ?mh ?mo; (case mh => walk_at "memr"); (case mo => assumption)) | walk_at "memr"); (case w => first | (refine NumK.some ?_; (unfold NSOME; simp; done)) | (refine NumK.none ?_; (unfold NNONE; simp; done))); (case lw => exact Nat.le_of_ble_eq_true (by decide +kernel)); (case h1 => assumption); (case h2 => assumption); (case h3 => assumption))
end
section
variable {prog : Program} {w : World} {p : Program} {loose : List Str} {mean : ExcName → Option Value} {mg mb : Str → Option Value}
  {dp un : Nat} {gd : Option (List Code)} {cn : Str} {cs : Scope} {a : Addr} {ccd : Value} {cl : List (Str × Addr)} {outer : List Env} {A₀ : Around} {base h₀ : Heap} {L : Addr} {m : Str → Option Value} {s : Shared}
  {Q E : Value → Shared → Prop} {rest : List (Addr × Obj)}
theorem kw_Lw5 : True := by
  w_top off
  k_with_none
  k_with "~k_all" => (first | with_reducible assumption | exact ne_of_allLt (by with_reducible assumption) | assumption | exact ne_of_allLt (by assumption))
  k_with "~memr" => (first | (with_reducible exact List.mem_cons_self ..) | ((with_reducible refine List.mem_cons_of_mem _ ?_); walk_at "memr") | (with_reducible assumption) | ((with_reducible refine List.mem_append_left _ ?_); walk_at "memr") | ((with_reducible refine List.mem_append_right _ ?_); walk_at "memr"))
  k_with "~memd" => (first | exact List.mem_cons_self .. | (refine List.mem_cons_of_mem _ ?_; walk_at "memd") | (refine List.mem_append.mpr (Or.inl ?_); walk_at "memd") | (refine List.mem_append.mpr (Or.inr ?_); walk_at "memd") | assumption)
  k_with "~k_mem" => (first | walk_at "memr" | walk_at "memd")
  k_with "~k_in" => (first | with_reducible assumption | exact Frag.In.keeps (by with_reducible assumption) (Fr.keep (by with_reducible assumption)))
  k_with "~k_room" => (((try simp only [depth_under_make, depth_under_kw, depth_in1, depth_deeper, depth_caller]); (try dsimp only [ktrTop]); first | walk_at "room" | omega))
  k_with "~mul_fits" => (k_dflt (exact mulOk_fmod _ _))
  k_with "~exec Raise some none" => ((k_here; (with_reducible show wpAny _ _ (exec (Stmt.Raise (some (Expr.Call (Expr.Name (Str.ofString "ParseError") _) _ _ _)) none _) _) _ _ _); refine Raise_E rfl ?_))
  k_with "~RaiseBack" => ((k_dflt (refine' RaiseBack.intro ?k1_8 ?k2_8 ?k3_8 ?k4_8 ?k5_8 ?_; (case k1_8 => k_asm); (case k2_8 => k_asm); (case k3_8 => k_asm); (case k4_8 => k_is); (case k5_8 => k_mem))))
  k_with "~call ref" => ((k_here; (with_reducible show wpAny _ _ (call (Value.ref 91) _ _) _ _ _); k_dflt (refine' call_excE ?k1_9 ?k2_9 ?k3_9 ?k4_9 ?k5_9 ?k6_9 ?k7_9 ?k8_9 ?k9_9 ?_; (case k1_9 => k_asm); (case k2_9 => k_asm); (case k3_9 => k_asm); (case k4_9 => k_is); (case k5_9 => k_is); (case k6_9 => k_is); (case k7_9 => k_is); (case k8_9 => k_is); (case k9_9 => size_fits); k_whole; intro e' t' h' F' N' l1 l2 l3; (try k_lt l1); (try k_lt2 l2); (try k_lt l3); (try k_sweep); (try dsimp only); k_enter)))
  k_with "~instx" => (first | (refine' inst_exc ?N_10 ?h1_10 ?h2_10; (case N_10 => with_reducible assumption); (case h1_10 => walk_at "memr"); (case h2_10 => walk_at "memr")) | (refine' inst_exc2 ?N_10 ?h1_10 ?hc_10 ?hd_10 ?hn_10 ?h2_10; (case hc_10 => with_reducible assumption); (case hd_10 => with_reducible assumption); (case hn_10 => with_reducible assumption); (case N_10 => with_reducible assumption); (case h1_10 => walk_at "memr"); (case h2_10 => walk_at "memr")))
  k_with "~instn" => ((refine' InstAt.of_news ?N_11 ?h1_11 ?h2_11; (case N_11 => with_reducible assumption); (case h1_11 => walk_at "memr"); (case h2_11 => walk_at "memr")))
  k_with "~k_inst" => (first | walk_at "instn" | walk_at "instx")
  k_with "~setAttr ref" => ((k_here; k_dflt (first | (refine' setE_new ?k1_13 ?k2_13 ?k3_13 ?k4_13 ?k5_13 ?k6_13 ?k6b_13 ?k7_13 ?k8_13 ?k9_13 ?k10_13 ?_; (case k1_13 => k_asm); (case k2_13 => k_asm); (case k3_13 => k_asm); (case k4_13 => k_all); (case k5_13 => k_is); (case k6_13 => k_is); (case k6b_13 => exact rfl); (case k7_13 => k_is); (case k8_13 => k_is); (case k9_13 => k_put); (case k10_13 => exact Nat.le_of_ble_eq_true rfl); k_whole; intro h' dx' F' N' l1 l2; (try k_lt l1); (try k_lt2 l2); (try k_sweep); (try dsimp only)) | (refine' setE_old ?k1_13 ?k2_13 ?k3_13 ?k4_13 ?k5_13 ?k6_13 ?k7_13 ?k7b_13 ?k8_13 ?k9_13 ?k10_13 ?k11_13 ?k12_13 ?k13_13 ?_; (case k1_13 => k_asm); (case k2_13 => k_asm); (case k3_13 => k_asm); (case k4_13 => walk_at "instx"); (case k5_13 => exact rfl); (case k6_13 => k_is); (case k7_13 => k_is); (case k7b_13 => exact rfl); (case k8_13 => k_is); (case k9_13 => k_is); (case k10_13 => k_get); (case k11_13 => k_put); (case k12_13 => k_upd); (case k13_13 => exact Nat.le_of_ble_eq_true rfl); k_whole; intro h' F' N'; (try k_sweep); (try dsimp only)))))
  k_with "~getAttr ref" => ((k_here; k_dflt (refine' getE ?k1_14 ?k2_14 ?k3_14 ?k4_14 ?k5_14 ?k6_14 ?k7_14 ?k8_14 ?k9_14 ?k10_14 ?_; (case k1_14 => k_asm); (case k2_14 => k_asm); (case k3_14 => walk_at "instx"); (case k4_14 => k_is); (case k5_14 => k_is); (case k6_14 => k_is); (case k7_14 => k_is); (case k8_14 => k_is); (case k9_14 => k_get); (case k10_14 => k_handed); k_whole)))
  k_with "~getAttr ref" => ((k_here; k_dflt (refine' get_own ?k1_15 ?k2_15 ?k3_15 ?k4_15 ?k5_15 ?k6_15 ?k7_15 ?k8_15 ?k9_15 ?_; (case k1_15 => k_asm); (case k2_15 => k_asm); (case k3_15 => walk_at "instn"); (case k4_15 => k_is); (case k5_15 => k_is); (case k6_15 => k_is); (case k7_15 => k_is); (case k8_15 => k_get); (case k9_15 => k_handed); k_whole)))
  k_with "~leaving ref" => ((k_here; k_dflt (first | (refine' leave_raiseD2 ?k1_16 ?k2_16 ?k3_16 ?k4_16 ?_; (case k1_16 => k_asm); (case k2_16 => k_asm); (case k3_16 => k_asm); (case k4_16 => k_all); k_whole; intro h' R' U'; (try dsimp only at R' U' ⊢)) | (refine' leave_onD ?k1_16 ?k2_16 ?k3_16 ?k4_16 ?_; (case k3_16 => k_asm); (case k2_16 => k_asm); (case k1_16 => k_asm); (case k4_16 => k_asm); k_whole; intro h' R' U'; (try dsimp only at R' U' ⊢)))))
  k_with "~subscriptTail Attribute Name Attribute ref int" => ((k_here; (with_reducible show wpAny _ _ (subscriptTail _ _ (Value.ref _) (Value.int _ _)) _ _ _); k_dflt (refine' item_ctx ?k1_17 ?k2_17 ?k3_17 ?k4_17 ?k5_17 ?_ ?k6_17; (case k1_17 => k_asm); (case k2_17 => k_mem); (case k3_17 => omega); (case k4_17 => omega); (case k5_17 => k_asm); (case k6_17 => with_unfolding_all rfl); k_whole)))
  k_with "~compareOp Eq str str" => ((k_here; k_dflt (refine eq_ctx (by k_asm) ?_)))
  k_with "~compareOp NotEq str str" => ((k_here; k_dflt (refine ne_ctx (by k_asm) ?_)))
  k_with "~call type:str" => ((k_here; (with_reducible show wpAny _ _ (call (Value.type "str") [Value.int _ _]) _ _ _); k_dflt (refine PySem.P.str_of_int (log_small (by k_asm) (by k_asm)) ?_)))
  k_with "~compareOp NotIn str ref" => ((k_here; k_dflt (first | refine resv_notin (by k_asm) (by k_asm) (by k_asm) ?_ | refine joinw_notin (by k_asm) (by k_asm) (by k_asm) ?_)))
  k_with "~compareOp In str ref" => ((k_here; k_dflt (refine sgn2_in (by k_asm) (by k_asm) (by k_asm) ?_)))
  k_with "~size_fits" => (exact size1000 (by k_asm))
  k_with "~subscriptTail Attribute Name Attribute str int" => ((k_here; (with_reducible show wpAny _ _ (subscriptTail _ _ (Value.str _ _) (Value.int _ _)) _ _ _); k_dflt (refine item_sctx (by k_asm) (by k_asm) ?_)))
  k_with "~compareOp In str str" => ((k_here; k_dflt (refine in_sctx (by k_asm) ?_)))
  k_with "~call builtin:ord" => ((k_here; (with_reducible show wpAny _ _ (call (Value.builtin "ord") [Value.str ⟨#[_]⟩ _]) _ _ _); refine ord_sctx ?_))
  k_with "~TurnI" => ((k_dflt (refine' TurnI.intro ?k1_27 ?k2_27 ?k3_27 ?k4_27; (case k1_27 => k_asm); (case k2_27 => k_asm); (case k3_27 => exact rfl); (case k4_27 => (intro z hz; simp [hz])))))
  k_with "~call builtin:str.isascii" => ((k_here; refine isascii_ctx (by k_asm) ?_))
  k_with "~subscriptTail Name Name str int" => ((k_here; k_dflt (refine item_sctx (by k_asm) (by k_asm) ?_)))
  k_with "~subscriptTail Attribute Name Slice str ref" => ((walk_at "last subscriptTail"))
  k_with "~storeName" => ((k_here; k_dflt (refine' storeX_L ?F_31 ?N_31 ?_ ?a_31 ?b_31; (case F_31 => k_asm); (case N_31 => k_asm); (case a_31 => rfl); (case b_31 => rfl); k_whole; intro h' F' N'; (try k_sweep); (try dsimp only))))
  k_with "~execs cons" => ((k_here; k_fold))
  k_with "~room" => (first | exact room1 (by with_reducible assumption) (Nat.le_of_ble_eq_true rfl) | exact room0 (by with_reducible assumption) (Nat.le_of_ble_eq_true rfl) | exact room2 (by with_reducible assumption) (Nat.le_of_ble_eq_true rfl))
  k_with "~ltc" => (first | (with_reducible assumption) | (with_reducible exact And.left (by with_reducible assumption)) | (with_reducible exact And.left (And.right (by with_reducible assumption))) | (with_reducible exact And.left (And.right (And.right (by with_reducible assumption)))) | (with_reducible exact And.left (And.right (And.right (And.right (by with_reducible assumption))))) | (with_reducible exact And.left (And.right (And.right (And.right (And.right (by with_reducible assumption)))))) | (with_reducible exact And.left (And.right (And.right (And.right (And.right (And.right (by with_reducible assumption))))))) | (with_reducible exact And.left (And.right (And.right (And.right (And.right (And.right (And.right (by with_reducible assumption)))))))) | (with_reducible exact (And.right (by with_reducible assumption))) | (with_reducible exact (And.right (And.right (by with_reducible assumption)))))
  k_with "~k_ne" => (((refine neN ?_); (try dsimp only); first | (with_reducible exact Nat.ne_of_lt (by walk_at "ltc")) | (with_reducible exact Nat.ne_of_gt (by walk_at "ltc"))))
  trivial
theorem one_str_ok {src lt : Addr} {x y : Int} {tx ty : Tok} {n nt : Nat} {its : Array Value} {ys : List Str}
  (B : Below A₀ base outer h₀) (F : Fr h₀ L s.heap m) (X : (Mine.K1 w.params).In h₀) (N : News h₀ L s.heap ((src, listOf #[.int x tx, .int y ty] n) :: rest)) (T : Top p loose mean mg mb h₀) (hk : cs.kind = .function)
  (hr : ∀ p ∈ rest, p.1 ≠ src) (hx : 0 ≤ x) (hy0 : 0 ≤ y) (hy : y < 2147483647) (hl : (lt, listOf its nt) ∈ rest) (h0 : 0 < its.size) (h1 : its.size ≤ 100) (hst : StrsAre its.toList ys) (hd : dp + 3 < recursionLimit) (hu : un + 24 < cLine)
  (hret : ∀ u t x' y' tx' ty' n' h' tk', Fr h₀ L h' m → News h₀ L h' ((src, listOf #[.int x' tx', .int y' ty'] n') :: rest) → 0 ≤ x' → 0 ≤ y' → y' < 2147483647 → u ∈ ys → Q (.str u t) { s with heap := h', toks := tk' }) :
  wpAny (model prog w) (ktrTop dp un gd cn cs L a ccd cl outer) (call (.ref 438) [.ref src, .ref lt]) Q E s := by
  refine one_ok B F X N T hk hr hx hy0 hy hl h0 h1 hd hu fun v x' y' tx' ty' n' h' tk' F' N' q1 q2 q3 hv => ?_
  obtain ⟨u, t, rfl, hu'⟩ := strs_mem hst hv
  exact hret u t x' y' tx' ty' n' h' tk' F' N' q1 q2 q3 hu'
end
section
open PySem PySem.W PySem.Calls PyProof.Rows
section
variable {prog : Program} {w : World} {A : Around} {E : Value → Shared → Prop} {s : Shared} {Q : Value → Shared → Prop} {h₀ : Heap} {L t : Addr} {l : List Value} {n : Nat} {news : List (Addr × Obj)} {x : Value} {u : Tok} {value slice : Expr}
theorem tup_ctx {k : Int} {j : Nat} (N : News h₀ L s.heap news) (hm : (t, tupD l n) ∈ news) (hlo : -(2 ^ 63) ≤ k) (hhi : k < 2 ^ 63) (hj : seqIndex? k l.length = some j) (hx : l[j]? = some x) (h : Q x s)
    (hs : subscripted slice false (.ref t) (.int k u) = operate [.ref t, .int k u] (getItem (.ref t) (.int k u)) := by with_unfolding_all rfl) (hg : ∀ r, letTemporaryGo value (.ref t) r = pure () := by intro _; with_unfolding_all rfl) :
    wpAny (model prog w) A (subscriptTail value slice (.ref t) (.int k u)) Q E s :=
  item_tupleL ⟨_, N.get hm, rfl, n, rfl⟩ hlo hhi hj hx h hs hg
end
theorem one_len : (Str.ofString "(").length = 1 ∧ (Str.ofString ",").length = 1 ∧ (Str.ofString ")").length = 1 ∧ (Str.ofString " y)").length = 3 := by decide +kernel
inductive BrT (at' : Int) : Str → (Str ⊕ (Str × Int)) → Prop
  | bad1 {W : Str} {k pl : Int} : (W, k) ∈ NNONE → pl = at' + 1 + k → BrT at' (Str.ofString "(" ++ W ++ Str.ofString ")") (.inr (Str.ofString "a number is missing", pl))
  | one {W v : Str} : (W, v) ∈ NSOME → BrT at' (Str.ofString "(" ++ W ++ Str.ofString ")") (.inl (Str.ofString "(" ++ v ++ Str.ofString ")"))
  | noClose {W v : Str} {pl : Int} : (W, v) ∈ NSOME → pl = at' + 2 + W.length → BrT at' (Str.ofString "(" ++ W ++ Str.ofString " y)") (.inr (Str.ofString ") is missing", pl))
  | bad2 {W v U : Str} {k pl : Int} : (W, v) ∈ NSOME → (U, k) ∈ NNONE → pl = at' + 2 + W.length + k → BrT at' (Str.ofString "(" ++ W ++ Str.ofString "," ++ U ++ Str.ofString ")") (.inr (Str.ofString "a number is missing", pl))
  | two {W v U u : Str} : (W, v) ∈ NSOME → (U, u) ∈ NSOME → BrT at' (Str.ofString "(" ++ W ++ Str.ofString "," ++ U ++ Str.ofString ")") (.inl (Str.ofString "(" ++ v ++ Str.ofString "," ++ u ++ Str.ofString ")"))
section
variable {prog : Program} {w : World} {A : Around} {E : Value → Shared → Prop} {s : Shared} {Q : Value → Shared → Prop}
theorem eq_int_two {x y : Int} {t u : Tok} (h1 : (x == y) = true → Q (.bool true) s) (h2 : (x == y) = false → Q (.bool false) s) : wpAny (model prog w) A (compareOp .Eq (.int x t) (.int y u)) Q E s := by
  cases h : (x == y) with
  | true => exact eq_int_ctx h (h1 h)
  | false => exact eq_int_ctx h (h2 h)
end
theorem all_tup {h₀ h : Heap} {L src tup : Addr} {l : List Value} {xs : Array Value} {n k : Nat} {rest : List (Addr × Obj)} (N : News h₀ L h ((tup, tupD l n) :: (src, listOf xs k) :: rest)) (hr : ∀ p ∈ rest, p.1 ≠ src) : ∀ p ∈ (tup, tupD l n) :: rest, p.1 ≠ src := by
  intro p hp
  rcases List.mem_cons.mp hp with rfl | hp
  · exact obj_ne N List.mem_cons_self (List.mem_cons_of_mem _ List.mem_cons_self) (by intro e; exact absurd (Value.type.inj e) (by decide))
  · exact hr p hp
theorem sub4 {a b c : Addr × Obj} {l r : List (Addr × Obj)} (ha : a ∈ l) (hb : b ∈ l) (hc : c ∈ l) (hr : ∀ p ∈ r, p ∈ l) : ∀ p ∈ a :: b :: c :: r, p ∈ l := by
  intro p hp
  rcases List.mem_cons.mp hp with rfl | hp
  · exact ha
  · exact sub3 hb hc hr p hp
end
section
variable {prog : Program} {w : World} {p : Program} {loose : List Str} {mean : ExcName → Option Value} {mg mb : Str → Option Value}
  {dp un : Nat} {gd : Option (List Code)} {cn : Str} {cs : Scope} {a : Addr} {ccd : Value} {cl : List (Str × Addr)} {outer : List Env} {A₀ : Around} {base h₀ : Heap} {L : Addr} {m : Str → Option Value} {s : Shared}
  {Q E : Value → Shared → Prop} {rest : List (Addr × Obj)}
theorem kw_Lw6 : True := by
  w_top off
  k_with_none
  k_with "~k_all" => (first | with_reducible assumption | exact ne_of_allLt (by with_reducible assumption) | assumption | exact ne_of_allLt (by assumption))
  k_with "~memr" => (first | (with_reducible exact List.mem_cons_self ..) | ((with_reducible refine List.mem_cons_of_mem _ ?_); walk_at "memr") | (with_reducible assumption) | ((with_reducible refine List.mem_append_left _ ?_); walk_at "memr") | ((with_reducible refine List.mem_append_right _ ?_); walk_at "memr"))
  k_with "~memd" => (first | exact List.mem_cons_self .. | (refine List.mem_cons_of_mem _ ?_; walk_at "memd") | (refine List.mem_append.mpr (Or.inl ?_); walk_at "memd") | (refine List.mem_append.mpr (Or.inr ?_); walk_at "memd") | assumption)
  k_with "~k_mem" => (first | walk_at "memr" | walk_at "memd")
  k_with "~k_in" => (first | with_reducible assumption | exact Frag.In.keeps (by with_reducible assumption) (Fr.keep (by with_reducible assumption)))
  k_with "~k_room" => (((try simp only [depth_under_make, depth_under_kw, depth_in1, depth_deeper, depth_caller]); (try dsimp only [ktrTop]); first | walk_at "room" | omega))
  k_with "~mul_fits" => (k_dflt (exact mulOk_fmod _ _))
  k_with "~exec Raise some none" => ((k_here; (with_reducible show wpAny _ _ (exec (Stmt.Raise (some (Expr.Call (Expr.Name (Str.ofString "ParseError") _) _ _ _)) none _) _) _ _ _); refine Raise_E rfl ?_))
  k_with "~RaiseBack" => ((k_dflt (refine' RaiseBack.intro ?k1_8 ?k2_8 ?k3_8 ?k4_8 ?k5_8 ?_; (case k1_8 => k_asm); (case k2_8 => k_asm); (case k3_8 => k_asm); (case k4_8 => k_is); (case k5_8 => k_mem))))
  k_with "~call ref" => ((k_here; (with_reducible show wpAny _ _ (call (Value.ref 91) _ _) _ _ _); k_dflt (refine' call_excE ?k1_9 ?k2_9 ?k3_9 ?k4_9 ?k5_9 ?k6_9 ?k7_9 ?k8_9 ?k9_9 ?_; (case k1_9 => k_asm); (case k2_9 => k_asm); (case k3_9 => k_asm); (case k4_9 => k_is); (case k5_9 => k_is); (case k6_9 => k_is); (case k7_9 => k_is); (case k8_9 => k_is); (case k9_9 => size_fits); k_whole; intro e' t' h' F' N' l1 l2 l3; (try k_lt l1); (try k_lt2 l2); (try k_lt l3); (try k_sweep); (try dsimp only); k_enter)))
  k_with "~instx" => (first | (refine' inst_exc ?N_10 ?h1_10 ?h2_10; (case N_10 => with_reducible assumption); (case h1_10 => walk_at "memr"); (case h2_10 => walk_at "memr")) | (refine' inst_exc2 ?N_10 ?h1_10 ?hc_10 ?hd_10 ?hn_10 ?h2_10; (case hc_10 => with_reducible assumption); (case hd_10 => with_reducible assumption); (case hn_10 => with_reducible assumption); (case N_10 => with_reducible assumption); (case h1_10 => walk_at "memr"); (case h2_10 => walk_at "memr")))
  k_with "~instn" => ((refine' InstAt.of_news ?N_11 ?h1_11 ?h2_11; (case N_11 => with_reducible assumption); (case h1_11 => walk_at "memr"); (case h2_11 => walk_at "memr")))
  k_with "~k_inst" => (first | walk_at "instn" | walk_at "instx")
  k_with "~setAttr ref" => ((k_here; k_dflt (first | (refine' setE_new ?k1_13 ?k2_13 ?k3_13 ?k4_13 ?k5_13 ?k6_13 ?k6b_13 ?k7_13 ?k8_13 ?k9_13 ?k10_13 ?_; (case k1_13 => k_asm); (case k2_13 => k_asm); (case k3_13 => k_asm); (case k4_13 => k_all); (case k5_13 => k_is); (case k6_13 => k_is); (case k6b_13 => exact rfl); (case k7_13 => k_is); (case k8_13 => k_is); (case k9_13 => k_put); (case k10_13 => exact Nat.le_of_ble_eq_true rfl); k_whole; intro h' dx' F' N' l1 l2; (try k_lt l1); (try k_lt2 l2); (try k_sweep); (try dsimp only)) | (refine' setE_old ?k1_13 ?k2_13 ?k3_13 ?k4_13 ?k5_13 ?k6_13 ?k7_13 ?k7b_13 ?k8_13 ?k9_13 ?k10_13 ?k11_13 ?k12_13 ?k13_13 ?_; (case k1_13 => k_asm); (case k2_13 => k_asm); (case k3_13 => k_asm); (case k4_13 => walk_at "instx"); (case k5_13 => exact rfl); (case k6_13 => k_is); (case k7_13 => k_is); (case k7b_13 => exact rfl); (case k8_13 => k_is); (case k9_13 => k_is); (case k10_13 => k_get); (case k11_13 => k_put); (case k12_13 => k_upd); (case k13_13 => exact Nat.le_of_ble_eq_true rfl); k_whole; intro h' F' N'; (try k_sweep); (try dsimp only)))))
  k_with "~getAttr ref" => ((k_here; k_dflt (refine' getE ?k1_14 ?k2_14 ?k3_14 ?k4_14 ?k5_14 ?k6_14 ?k7_14 ?k8_14 ?k9_14 ?k10_14 ?_; (case k1_14 => k_asm); (case k2_14 => k_asm); (case k3_14 => walk_at "instx"); (case k4_14 => k_is); (case k5_14 => k_is); (case k6_14 => k_is); (case k7_14 => k_is); (case k8_14 => k_is); (case k9_14 => k_get); (case k10_14 => k_handed); k_whole)))
  k_with "~getAttr ref" => ((k_here; k_dflt (refine' get_own ?k1_15 ?k2_15 ?k3_15 ?k4_15 ?k5_15 ?k6_15 ?k7_15 ?k8_15 ?k9_15 ?_; (case k1_15 => k_asm); (case k2_15 => k_asm); (case k3_15 => walk_at "instn"); (case k4_15 => k_is); (case k5_15 => k_is); (case k6_15 => k_is); (case k7_15 => k_is); (case k8_15 => k_get); (case k9_15 => k_handed); k_whole)))
  k_with "~leaving ref" => ((k_here; k_dflt (first | (refine' leave_raiseD2 ?k1_16 ?k2_16 ?k3_16 ?k4_16 ?_; (case k1_16 => k_asm); (case k2_16 => k_asm); (case k3_16 => k_asm); (case k4_16 => k_all); k_whole; intro h' R' U'; (try dsimp only at R' U' ⊢)) | (refine' leave_onD ?k1_16 ?k2_16 ?k3_16 ?k4_16 ?_; (case k3_16 => k_asm); (case k2_16 => k_asm); (case k1_16 => k_asm); (case k4_16 => k_asm); k_whole; intro h' R' U'; (try dsimp only at R' U' ⊢)))))
  k_with "~subscriptTail Attribute Name Attribute ref int" => ((k_here; (with_reducible show wpAny _ _ (subscriptTail _ _ (Value.ref _) (Value.int _ _)) _ _ _); k_dflt (refine' item_ctx ?k1_17 ?k2_17 ?k3_17 ?k4_17 ?k5_17 ?_ ?k6_17; (case k1_17 => k_asm); (case k2_17 => k_mem); (case k3_17 => omega); (case k4_17 => omega); (case k5_17 => k_asm); (case k6_17 => with_unfolding_all rfl); k_whole)))
  k_with "~compareOp Eq str str" => ((k_here; k_dflt (refine eq_ctx (by k_asm) ?_)))
  k_with "~compareOp NotEq str str" => ((k_here; k_dflt (refine ne_ctx (by k_asm) ?_)))
  k_with "~call type:str" => ((k_here; (with_reducible show wpAny _ _ (call (Value.type "str") [Value.int _ _]) _ _ _); k_dflt (refine PySem.P.str_of_int (log_small (by k_asm) (by k_asm)) ?_)))
  k_with "~compareOp NotIn str ref" => ((k_here; k_dflt (first | refine resv_notin (by k_asm) (by k_asm) (by k_asm) ?_ | refine joinw_notin (by k_asm) (by k_asm) (by k_asm) ?_)))
  k_with "~compareOp In str ref" => ((k_here; k_dflt (refine sgn2_in (by k_asm) (by k_asm) (by k_asm) ?_)))
  k_with "~size_fits" => (exact size1000 (by k_asm))
  k_with "~subscriptTail Attribute Name Attribute str int" => ((k_here; (with_reducible show wpAny _ _ (subscriptTail _ _ (Value.str _ _) (Value.int _ _)) _ _ _); k_dflt (refine item_sctx (by k_asm) (by k_asm) ?_)))
  k_with "~compareOp In str str" => ((k_here; k_dflt (refine in_sctx (by k_asm) ?_)))
  k_with "~call builtin:ord" => ((k_here; (with_reducible show wpAny _ _ (call (Value.builtin "ord") [Value.str ⟨#[_]⟩ _]) _ _ _); refine ord_sctx ?_))
  k_with "~TurnI" => ((k_dflt (refine' TurnI.intro ?k1_27 ?k2_27 ?k3_27 ?k4_27; (case k1_27 => k_asm); (case k2_27 => k_asm); (case k3_27 => exact rfl); (case k4_27 => (intro z hz; simp [hz])))))
  k_with "~call builtin:str.isascii" => ((k_here; refine isascii_ctx (by k_asm) ?_))
  k_with "~subscriptTail Name Name str int" => ((k_here; k_dflt (refine item_sctx (by k_asm) (by k_asm) ?_)))
  k_with "~subscriptTail Attribute Name Slice str ref" => ((walk_at "last subscriptTail"))
  k_with "~storeName" => ((k_here; k_dflt (refine' storeX_L ?F_31 ?N_31 ?_ ?a_31 ?b_31; (case F_31 => k_asm); (case N_31 => k_asm); (case a_31 => rfl); (case b_31 => rfl); k_whole; intro h' F' N'; (try k_sweep); (try dsimp only))))
  k_with "~execs cons" => ((k_here; k_fold))
  k_with "~room" => (first | exact room1 (by with_reducible assumption) (Nat.le_of_ble_eq_true rfl) | exact room0 (by with_reducible assumption) (Nat.le_of_ble_eq_true rfl) | exact room2 (by with_reducible assumption) (Nat.le_of_ble_eq_true rfl))
  k_with "~ltc" => (first | (with_reducible assumption) | (with_reducible exact And.left (by with_reducible assumption)) | (with_reducible exact And.left (And.right (by with_reducible assumption))) | (with_reducible exact And.left (And.right (And.right (by with_reducible assumption)))) | (with_reducible exact And.left (And.right (And.right (And.right (by with_reducible assumption))))) | (with_reducible exact And.left (And.right (And.right (And.right (And.right (by with_reducible assumption)))))) | (with_reducible exact And.left (And.right (And.right (And.right (And.right (And.right (by with_reducible assumption))))))) | (with_reducible exact And.left (And.right (And.right (And.right (And.right (And.right (And.right (by with_reducible assumption)))))))) | (with_reducible exact (And.right (by with_reducible assumption))) | (with_reducible exact (And.right (And.right (by with_reducible assumption)))))
  k_with "~k_ne" => (((refine neN ?_); (try dsimp only); first | (with_reducible exact Nat.ne_of_lt (by walk_at "ltc")) | (with_reducible exact Nat.ne_of_gt (by walk_at "ltc"))))
  k_with "~call ref" => ((k_here; (with_reducible show wpAny _ _ (call (Value.ref 431) [Value.ref _, Value.int _ _]) _ _ _); k_dflt (refine' take_ok ?k1_94 ?k2_94 ?k3_94 ?k4_94 ?k5_94 ?k6_94 ?k7_94 ?k8_94 ?k9_94 ?k10_94 ?k11_94 ?k12_94 ?k13_94 ?k14_94 ?_; (case k1_94 => k_asm); (case k2_94 => k_asm); (case k3_94 => k_asm); (case k4_94 => k_asm); (case k5_94 => k_asm); (case k6_94 => first | exact rfl | assumption); (case k7_94 => k_all); (case k8_94 => assumption); (case k9_94 => assumption); (case k10_94 => assumption); (case k11_94 => omega); (case k12_94 => omega); (case k13_94 => k_room); (case k14_94 => first | walk_at "room" | ((try simp only [units_under_make, units_in1, units_deeper, Around.mark_units, units_caller]); (try dsimp only [ktrTop]); first | walk_at "room" | omega)); k_whole; intro dW tdW xW yW txW tyW nW hW tkW fW nwW x0W y0W y1W d0W d1W; (try k_sweep); (try dsimp only))))
  k_with "~subscriptTail" => ((k_here; (with_reducible show wpAny _ _ (subscriptTail _ _ (Value.ref _) (Value.int _ _)) _ _ _); k_dflt (obtain ⟨vW, hvW⟩ := some_at (by assumption) (by assumption); refine' item_ctx ?k1_95 ?k2_95 ?k3_95 ?k4_95 hvW ?_ ?k6_95; (case k1_95 => k_asm); (case k2_95 => k_mem); (case k3_95 => omega); (case k4_95 => omega); (case k6_95 => with_unfolding_all rfl); k_whole)))
  k_with "~call builtin:len" => ((k_here; (with_reducible show wpAny _ _ (call (Value.builtin "len") [Value.ref _]) _ _ _); k_dflt (refine' len_list ?k1_96 ?k2_96 ?_; (case k1_96 => exact News.isList (by k_asm) (by k_mem)); (case k2_96 => omega); k_whole)))
  k_with "~call ref" => ((k_here; (with_reducible show wpAny _ _ (call (Value.ref 466) _) _ _ _); k_dflt (refine' number_ok ?k1_100 ?k2_100 ?k3_100 ?k4_100 ?k5_100 ?k6_100 ?k7_100 ?k8_100 ?k9_100 ?k10_100 ?k11_100 ?k12_100 (fun WW nvW kW tupW tWW tkkW nnW xW yW txW tyW nW hW tkW memW lenW1 fW nwW x0W y0W y1W => ?_); (case k1_100 => k_asm); (case k2_100 => k_asm); (case k3_100 => k_asm); (case k4_100 => first | k_asm | exact news_sw (by k_asm)); (case k5_100 => k_asm); (case k6_100 => first | exact rfl | assumption); (case k7_100 => first | k_all | exact all_tup (by k_asm) (by assumption)); (case k8_100 => assumption); (case k9_100 => assumption); (case k10_100 => assumption); (case k11_100 => k_room); (case k12_100 => first | walk_at "room" | ((try simp only [units_under_make, units_in1, units_deeper, Around.mark_units, units_caller]); (try dsimp only [ktrTop]); first | walk_at "room" | omega)); all_goals (k_whole; (try k_sweep); (try dsimp only)))))
  k_with "~compareOp Eq int int" => ((k_here; (with_reducible show wpAny _ _ (compareOp CmpOp.Eq (Value.int _ _) (Value.int _ _)) _ _ _); k_dflt (refine' eq_int_two (fun wayW => ?_) (fun wayW => ?_))))
  k_with "~subscriptTail Name Constant ref int" => ((k_here; (with_reducible show wpAny _ _ (subscriptTail _ _ (Value.ref _) (Value.int _ _)) _ _ _); k_dflt (refine' tup_ctx ?k1_102 ?k2_102 ?k3_102 ?k4_102 ?k5_102 ?k6_102 ?_ ?k7_102 ?k8_102; (case k1_102 => k_asm); (case k2_102 => k_mem); (case k3_102 => decide); (case k4_102 => decide); (case k5_102 => exact rfl); (case k6_102 => exact rfl); (case k7_102 => with_unfolding_all rfl); (case k8_102 => intro _; with_unfolding_all rfl); k_whole)))
  k_with "~compareOp Is none" => ((k_here; (with_reducible show wpAny _ _ (compareOp CmpOp.Is _ Value.none) _ _ _); k_dflt (refine' num_is ?k1_103 (fun eN => ?_) (fun vN tN eN lN => ?_); (case k1_103 => with_reducible assumption); all_goals subst eN)))
  trivial
set_option maxHeartbeats 6000000 in
theorem lbracket_ok {src : Addr} {x y at' : Int} {tx ty ta : Tok} {n : Nat}
  (B : Below A₀ base outer h₀) (F : Fr h₀ L s.heap m) (X : (Mine.K1 w.params).In h₀) (N : News h₀ L s.heap ((src, listOf #[.int x tx, .int y ty] n) :: rest)) (T : Top p loose mean mg mb h₀) (hk : cs.kind = .function)
  (hr : ∀ p ∈ rest, p.1 ≠ src) (hx : 0 ≤ x) (hy0 : 0 ≤ y) (hy : y < 2147483647) (ha0 : 0 ≤ at') (ha1 : at' ≤ 1000) (hd : dp + 8 < recursionLimit) (hu : un + 60 < cLine)
  (hI : ∀ t d tup tt td nn x' y' tx' ty' n' h' tk', BrT at' t (.inl d) → Fr h₀ L h' m → News h₀ L h' ((tup, tupD [.str t tt, .str d td] nn) :: (src, listOf #[.int x' tx', .int y' ty'] n') :: rest) → 0 ≤ x' → 0 ≤ y' → y' < 2147483647 → Q (.ref tup) { s with heap := h', toks := tk' })
  (hR : ∀ t msg pl tup tup2 tt t1 t2 t3 nn nm x' y' tx' ty' n' h' tk', BrT at' t (.inr (msg, pl)) → Fr h₀ L h' m → News h₀ L h' ((tup, tupD [.str t tt, .ref tup2] nn) :: (tup2, tupD [.str (Str.ofString "refused") t1, .str msg t2, .int pl t3] nm) :: (src, listOf #[.int x' tx', .int y' ty'] n') :: rest) → 0 ≤ x' → 0 ≤ y' → y' < 2147483647 → Q (.ref tup) { s with heap := h', toks := tk' }) :
  wpAny (model prog w) (ktrTop dp un gd cn cs L a ccd cl outer) (call (.ref 473) [.ref src, .int at' ta]) Q E s := by
  refine wpAny_call ?_
  k_dflt ktr_enter
  k_steps
  all_goals first
    | (refine' hI _ _ _ _ _ _ _ _ _ _ _ _ _ ?w (by k_asm) ?nw ?h1 ?h2 ?h3; (case nw => (refine news_in (by k_asm) (sub3 (by walk_at "memr") (by walk_at "memr") ?_); (intro p hp; repeat (first | exact hp | refine List.mem_cons_of_mem _ ?_)))); (case w => first | exact BrT.two (NumK.str (by assumption)) (NumK.str (by assumption)) | exact BrT.one (NumK.str (by assumption))); (case h1 => assumption); (case h2 => assumption); (case h3 => assumption))
    | (refine' hR _ _ _ _ _ _ _ _ _ _ _ _ _ _ _ _ _ _ ?w (by k_asm) ?nw ?h1 ?h2 ?h3; (case nw => (refine news_in (by k_asm) (sub4 (by walk_at "memr") (by walk_at "memr") (by walk_at "memr") ?_); (intro p hp; repeat (first | exact hp | refine List.mem_cons_of_mem _ ?_)))); (case w => first | exact BrT.noClose (NumK.str (by assumption)) rfl | exact BrT.bad1 (NumK.non (by assumption)) rfl | exact BrT.bad2 (NumK.str (by assumption)) (NumK.non (by assumption)) (by have := one_len; (try simp only [Str.length_append]); (try push_cast); omega)); (case h1 => assumption); (case h2 => assumption); (case h3 => assumption))
end
section
open PySem PySem.W PySem.Calls PyProof.Rows
noncomputable def spN (k : Nat) : Str := ⟨(List.replicate k 32).toArray⟩
theorem spN_len (k : Nat) : (spN k).length = k := by show (List.replicate k 32).toArray.size = k; simp
section
variable {prog : Program} {w : World} {A : Around} {E : Value → Shared → Prop} {s : Shared} {Q : Value → Shared → Prop} {t u : Tok}
theorem mul_sp {d : Int} (h0 : 0 ≤ d) (h1 : d ≤ 2) (h : ∀ (k : Nat) t' c, (k : Int) = d → (spN k).length ≤ 2 → Q (.str (spN k) t') { s with toks := c }) : wpAny (model prog w) A (binaryOp .Mult (.str (Str.ofString " ") t) (.int d u)) Q E s := by
  have hc : d = 0 ∨ d = 1 ∨ d = 2 := by omega
  have e0 : Txt.mul (Str.ofString " ") 0 = spN 0 := by decide +kernel
  have e1 : Txt.mul (Str.ofString " ") 1 = spN 1 := by decide +kernel
  have e2 : Txt.mul (Str.ofString " ") 2 = spN 2 := by decide +kernel
  have ok : ∀ d : Int, 0 ≤ d → d ≤ 2 → MulOk (Str.ofString " ") d := fun d a b => mulOk_of 16 1048576 (by first | decide | omega) (by omega) (by omega) (by decide) (by decide)
  rcases hc with rfl | rfl | rfl
  · exact SB.mul (ok _ (by decide) (by decide)) fun t' k => by rw [e0]; exact h 0 t' k rfl (by decide)
  · exact SB.mul (ok _ (by decide) (by decide)) fun t' k => by rw [e1]; exact h 1 t' k rfl (by decide)
  · exact SB.mul (ok _ (by decide) (by decide)) fun t' k => by rw [e2]; exact h 2 t' k rfl (by decide)
end
theorem small4 {n : Nat} (h : n < 4) : Builtin.Range.small 0 (n : Int) 1 = true ∧ Builtin.Range.rangeSize 0 (n : Int) 1 = (n : Int) := by
  have : n = 0 ∨ n = 1 ∨ n = 2 ∨ n = 3 := by omega
  rcases this with rfl | rfl | rfl | rfl <;> exact ⟨by rfl, by rfl⟩
noncomputable def M2 (y1 y2 : Str) (st : List Str) (u : Str → Option Value) (v1 v2 : Value) (m₀ : Str → Option Value) : Str → Option Value := fun z => if z = y1 then some v1 else if z = y2 then some v2 else if st.contains z then u z else m₀ z
theorem ite_o {x z : Str} {v u w : Option Value} (h : z ≠ x) (k : u = w) : (if z = x then v else u) = w := by rw [if_neg h]; exact k
theorem M2_other {y1 y2 : Str} {st : List Str} {u : Str → Option Value} {v1 v2 : Value} {m₀ : Str → Option Value} {z : Str} (a : z ≠ y1) (b : z ≠ y2) (c : ∀ x ∈ st, z ≠ x) : M2 y1 y2 st u v1 v2 m₀ z = m₀ z := by
  unfold M2
  rw [if_neg a, if_neg b, if_neg]
  intro h
  exact c z (by simpa using h) rfl
theorem M2_of {y1 y2 : Str} {st : List Str} {v1 v2 : Value} {m' m₀ : Str → Option Value} (h1 : m' y1 = some v1) (h2 : m' y2 = some v2) (ho : ∀ z, z ≠ y1 → z ≠ y2 → (∀ x ∈ st, z ≠ x) → m' z = m₀ z) : M2 y1 y2 st m' v1 v2 m₀ = m' := by
  funext z
  unfold M2
  by_cases a : z = y1
  · rw [if_pos a, a, h1]
  · rw [if_neg a]
    by_cases b : z = y2
    · rw [if_pos b, b, h2]
    · rw [if_neg b]
      cases c : st.contains z with
      | true => rw [if_pos rfl]
      | false =>
        rw [if_neg Bool.false_ne_true, ho z a b fun x hx e => by
          rw [e] at c
          rw [List.contains_iff_mem.mpr hx] at c
          cases c]
noncomputable def TurnR (h₀ : Heap) (L : Addr) (s : Shared) (y1 y2 : Str) (st : List Str) (m₀ : Str → Option Value) (I : Addr) (it : Obj) (Inv : Value → Value → List (Addr × Obj) → Prop) (f : Flow) (s₃ : Shared) : Prop :=
  f = .next ∧ ∃ h' tk' u v1 v2 news', s₃ = { s with heap := h', toks := tk' } ∧ Fr h₀ L h' (M2 y1 y2 st u v1 v2 m₀) ∧ News h₀ L h' ((I, it) :: news') ∧ (∀ p ∈ news', p.1 ≠ I) ∧ Inv v1 v2 news'
theorem TurnR.intro {h₀ h' : Heap} {L : Addr} {s : Shared} {y1 y2 : Str} {st : List Str} {m₀ m' : Str → Option Value} {I : Addr} {it : Obj} {Inv : Value → Value → List (Addr × Obj) → Prop} {tk' : Nat} {v1 v2 : Value} {news' : List (Addr × Obj)}
    (F : Fr h₀ L h' m') (N : News h₀ L h' ((I, it) :: news')) (h1 : m' y1 = some v1) (h2 : m' y2 = some v2) (ho : ∀ z, z ≠ y1 → z ≠ y2 → (∀ x ∈ st, z ≠ x) → m' z = m₀ z) (off : ∀ p ∈ news', p.1 ≠ I) (hI : Inv v1 v2 news') :
    TurnR h₀ L s y1 y2 st m₀ I it Inv .next { s with heap := h', toks := tk' } :=
  ⟨rfl, h', tk', m', v1, v2, news', rfl, by rw [M2_of h1 h2 ho]; exact F, N, off, hI⟩
section
variable {prog : Program} {w : World} {A : Around} {E : Value → Shared → Prop} {s : Shared} {env : Env} {h₀ : Heap} {x : Str} {body : List Stmt} {Q : Flow → Shared → Prop}
theorem range_rest {y1 y2 : Str} {st : List Str} {m₀ : Str → Option Value} {I : Addr} {n : Nat} (Inv : Nat → Value → Value → List (Addr × Obj) → Prop)
    (turn : ∀ i v1 v2 u news t h tk, i < n → Inv i v1 v2 news → Fr h₀ env.locals h (fun y => if y = x then some (.int (i : Int) t) else M2 y1 y2 st u v1 v2 m₀ y) → News h₀ env.locals h ((I, itR ((i + 1 : Nat) : Int) ((n : Int) - ((i + 1 : Nat) : Int))) :: news) →
      wpAny (model prog w) A (execs body env) (TurnR h₀ env.locals s y1 y2 st m₀ I (itR ((i + 1 : Nat) : Int) ((n : Int) - ((i + 1 : Nat) : Int))) (Inv (i + 1))) E { s with heap := h, toks := tk })
    (done : ∀ v1 v2 u news h tk, Inv n v1 v2 news → Fr h₀ env.locals h (M2 y1 y2 st u v1 v2 m₀) → News h₀ env.locals h news → Q .next { s with heap := h, toks := tk }) :
    ∀ k i u v1 v2 news, i + k = n → Inv i v1 v2 news → RangeRest prog w A E h₀ env x body Q s I 0 n k i (M2 y1 y2 st u v1 v2 m₀) news := by
  intro k
  induction k with
  | zero =>
    intro i u v1 v2 news hi hI
    refine RangeRest.zero fun h tk F N => ?_
    obtain rfl : i = n := by omega
    exact done v1 v2 u news h tk hI F N
  | succ k ih =>
    intro i u v1 v2 news hi hI
    refine RangeRest.succ fun t h tk F N => ?_
    simp only [Int.zero_add] at F N ⊢
    refine wpAny_mono (turn i v1 v2 u news t h tk (by omega) hI F N) (fun f s₃ q => ?_) fun _ _ e => e
    obtain ⟨rfl, h', tk', u', v1', v2', news', rfl, F', N', off, hI'⟩ := q
    exact ⟨h', tk', _, news', rfl, F', N', off, ih (i + 1) u' v1' v2' news' (by omega) hI'⟩
theorem range_inv {r : Addr} {t₀ u₀ v₀ : Tok} {n : Nat} {y1 y2 : Str} {st : List Str} {m₀ : Str → Option Value} {v1 v2 : Value} {news : List (Addr × Obj)} (Inv : Nat → Value → Value → List (Addr × Obj) → Prop)
    (hh : A.handled = none) (hr : IsRange s.heap r 0 (n : Int) 1 t₀ u₀ v₀) (hn : n < 4) (F : Fr h₀ env.locals s.heap m₀) (N : News h₀ env.locals s.heap news) (h1 : m₀ y1 = some v1) (h2 : m₀ y2 = some v2) (hI : Inv 0 v1 v2 news)
    (turn : ∀ I, (∀ p ∈ news, p.1 < I) → ∀ i v1 v2 u news t h tk, i < n → Inv i v1 v2 news → Fr h₀ env.locals h (fun y => if y = x then some (.int (i : Int) t) else M2 y1 y2 st u v1 v2 m₀ y) → News h₀ env.locals h ((I, itR ((i + 1 : Nat) : Int) ((n : Int) - ((i + 1 : Nat) : Int))) :: news) →
      wpAny (model prog w) A (execs body env) (TurnR h₀ env.locals s y1 y2 st m₀ I (itR ((i + 1 : Nat) : Int) ((n : Int) - ((i + 1 : Nat) : Int))) (Inv (i + 1))) E { s with heap := h, toks := tk })
    (done : ∀ v1 v2 u news h tk, Inv n v1 v2 news → Fr h₀ env.locals h (M2 y1 y2 st u v1 v2 m₀) → News h₀ env.locals h news → Q .next { s with heap := h, toks := tk }) :
    wpAny (model prog w) A (pyIter (.ref r)) (fun it s₂ => LoopAtV prog w A h₀ env x body Q E it s₂) E s := by
  have hs := small4 hn
  refine iter_rangeUnr hh hr hs.1 hs.2 F N fun I hl => ?_
  have := range_rest (Q := Q) (st := st) (I := I) Inv (turn I hl) done n 0 m₀ v1 v2 news (by omega) hI
  rw [M2_of (st := st) h1 h2 (fun _ _ _ _ => rfl)] at this
  exact this
end
inductive HeadT : Nat → Str → List Str → Option Nat → Prop
  | start {k : Nat} : (spN k).length ≤ 2 → HeadT 0 (spN k) [] none
  | good {i k : Nat} {t W v : Str} {ns : List Str} : HeadT i t ns none → (W, v) ∈ WSOME → 1 ≤ k → k ≤ 2 → HeadT (i + 1) (t ++ W ++ spN k) (ns ++ [v]) none
  | stop {i k : Nat} {t W : Str} {ns : List Str} : HeadT i t ns none → W ∈ Str.ofString "Left" :: WNONE → 1 ≤ k → k ≤ 2 → HeadT (i + 1) (t ++ W ++ spN k) ns (some t.length)
  | after {i k b : Nat} {t W : Str} {ns : List Str} : HeadT i t ns (some b) → (W ∈ Str.ofString "Left" :: WNONE ∨ ∃ v, (W, v) ∈ WSOME) → 1 ≤ k → k ≤ 2 → HeadT (i + 1) (t ++ W ++ spN k) ns (some b)
theorem wsome_len {W v : Str} (h : (W, v) ∈ WSOME) : W.length ≤ 7 ∧ v.length ≤ 7 := by
  have : ∀ q ∈ WSOME, q.1.length ≤ 7 ∧ q.2.length ≤ 7 := by decide +kernel
  exact this _ h
theorem wnone_len {W : Str} (h : W ∈ Str.ofString "Left" :: WNONE) : W.length ≤ 7 := by
  have : ∀ q ∈ Str.ofString "Left" :: WNONE, q.length ≤ 7 := by decide +kernel
  exact this _ h
theorem head_len {i : Nat} {t : Str} {ns : List Str} {b : Option Nat} (h : HeadT i t ns b) : t.length ≤ 2 + 9 * i ∧ ns.length ≤ i ∧ (∀ v ∈ ns, v.length ≤ 7) ∧ (∀ k, b = some k → k ≤ t.length) := by
  induction h with
  | start h => exact ⟨by omega, Nat.zero_le _, by simp, by simp⟩
  | good _ hw h1 h2 ih =>
    have := wsome_len hw
    refine ⟨by simp only [Str.length_append, spN_len]; omega, by simp; omega, ?_, by simp⟩
    intro v hv
    rcases List.mem_append.mp hv with hv | hv
    · exact ih.2.2.1 v hv
    · rw [List.mem_singleton.mp hv]; exact this.2
  | stop _ hw h1 h2 ih =>
    have := wnone_len hw
    refine ⟨by simp only [Str.length_append, spN_len]; omega, by omega, ih.2.2.1, ?_⟩
    intro k hk; injection hk with hk; subst hk; simp only [Str.length_append]; omega
  | after _ hw h1 h2 ih =>
    have := hw.elim wnone_len fun ⟨v, hv⟩ => (wsome_len hv).1
    refine ⟨by simp only [Str.length_append, spN_len]; omega, by omega, ih.2.2.1, ?_⟩
    intro k hk; have := ih.2.2.2 k hk; simp only [Str.length_append]; omega
theorem head_len100 {i : Nat} {t : Str} {ns : List Str} {b : Option Nat} (h : HeadT i t ns b) (hi : i ≤ 3) : t.length ≤ 100 := by have := (head_len h).1; omega
theorem news_t3 {h₀ h : Heap} {L : Addr} {a b c : Addr × Obj} {tl : List (Addr × Obj)} (N : News h₀ L h (a :: b :: c :: tl)) : News h₀ L h (c :: a :: tl) := fun p hp => N p (by
  rcases List.mem_cons.mp hp with rfl | hp
  · exact List.mem_cons_of_mem _ (List.mem_cons_of_mem _ List.mem_cons_self)
  · rcases List.mem_cons.mp hp with rfl | hp
    · exact List.mem_cons_self
    · exact List.mem_cons_of_mem _ (List.mem_cons_of_mem _ (List.mem_cons_of_mem _ hp)))
noncomputable def bval (b : Option Nat) (t : Tok) : Value := match b with | none => .none | some k => .int (k : Int) t
section
variable {prog : Program} {w : World} {A : Around} {E : Value → Shared → Prop} {s : Shared} {Q : Value → Shared → Prop}
theorem b_is {b : Option Nat} {t : Tok} (h1 : b = none → Q (.bool true) s) (h2 : ∀ k, b = some k → Q (.bool false) s) : wpAny (model prog w) A (compareOp .Is (bval b t) .none) Q E s := by
  cases b with
  | none => exact wpAny_is_self rfl (h1 rfl)
  | some k => exact wpAny_is_other rfl (by intro x; cases x) (h2 k rfl)
end
/-- between the turns of _law_head -/
inductive HInv (ln src : Addr) (rest : List (Addr × Obj)) (i : Nat) : Value → Value → List (Addr × Obj) → Prop
  | mk {t : Str} {ns : List Str} {b : Option Nat} {tt tb : Tok} {its : Array Value} {nl : Nat} {x y : Int} {tx ty : Tok} {n : Nat} : HeadT i t ns b → StrsAre its.toList ns → its.size ≤ i → 0 ≤ x → 0 ≤ y → y < 2147483647 → HInv ln src rest i (.str t tt) (bval b tb) ((src, listOf #[.int x tx, .int y ty] n) :: (ln, listOf its nl) :: rest)
section
variable {ln src : Addr} {rest : List (Addr × Obj)} {i k nl n : Nat} {t W v : Str} {ns : List Str} {its : Array Value} {x y d : Int} {tt tx ty tv tb : Tok}
theorem HInv.start (h : (spN k).length ≤ 2) (h1 : 0 ≤ x) (h2 : 0 ≤ y) (h3 : y < 2147483647) : HInv ln src rest 0 (.str (spN k) tt) .none ((src, listOf #[.int x tx, .int y ty] n) :: (ln, listOf #[] nl) :: rest) :=
  .mk (b := none) (tb := 0) (.start h) StrsAre.nil (Nat.le_refl _) h1 h2 h3
theorem HInv.good (hT : HeadT i t ns none) (hm : (W, v) ∈ WSOME) (hst : StrsAre its.toList ns) (hsz : its.size ≤ i) (hk : (k : Int) = 1 + d) (hd0 : 0 ≤ d) (hd1 : d < 2) (h1 : 0 ≤ x) (h2 : 0 ≤ y) (h3 : y < 2147483647) :
    HInv ln src rest (i + 1) (.str (t ++ W ++ spN k) tt) .none ((src, listOf #[.int x tx, .int y ty] n) :: (ln, listOf (its.push (.str v tv)) nl) :: rest) :=
  .mk (b := none) (tb := 0) (.good hT hm (by omega) (by omega)) (by rw [Array.toList_push]; exact strs_push hst v tv) (by rw [Array.size_push]; omega) h1 h2 h3
theorem HInv.stop (hT : HeadT i t ns none) (hm : W ∈ Str.ofString "Left" :: WNONE) (hst : StrsAre its.toList ns) (hsz : its.size ≤ i) (hk : (k : Int) = 1 + d) (hd0 : 0 ≤ d) (hd1 : d < 2) (h1 : 0 ≤ x) (h2 : 0 ≤ y) (h3 : y < 2147483647) :
    HInv ln src rest (i + 1) (.str (t ++ W ++ spN k) tt) (.int (t.length : Int) tb) ((src, listOf #[.int x tx, .int y ty] n) :: (ln, listOf its nl) :: rest) :=
  .mk (b := some t.length) (.stop hT hm (by omega) (by omega)) hst (by omega) h1 h2 h3
theorem HInv.after {b : Nat} (hT : HeadT i t ns (some b)) (hm : W ∈ Str.ofString "Left" :: WNONE ∨ ∃ v, (W, v) ∈ WSOME) (hst : StrsAre its.toList ns) (hsz : its.size ≤ i) (hk : (k : Int) = 1 + d) (hd0 : 0 ≤ d) (hd1 : d < 2) (h1 : 0 ≤ x) (h2 : 0 ≤ y) (h3 : y < 2147483647) :
    HInv ln src rest (i + 1) (.str (t ++ W ++ spN k) tt) (.int (b : Int) tb) ((src, listOf #[.int x tx, .int y ty] n) :: (ln, listOf its nl) :: rest) :=
  .mk (b := some b) (.after hT hm (by omega) (by omega)) hst (by omega) h1 h2 h3
end
section
variable {prog : Program} {w : World} {A : Around} {E : Value → Shared → Prop} {s : Shared} {env : Env} {h₀ : Heap} {x : Str} {body : List Stmt} {Q : Flow → Shared → Prop}
theorem range_inv2 {r : Addr} {t₀ u₀ v₀ : Tok} {b : Int} {y1 y2 : Str} {st : List Str} {m₀ : Str → Option Value} {v1 v2 : Value} {news : List (Addr × Obj)} (Inv : Nat → Value → Value → List (Addr × Obj) → Prop)
    (hh : A.handled = none) (hr : IsRange s.heap r 0 b 1 t₀ u₀ v₀) (hb0 : 0 ≤ b) (hb1 : b < 4) (F : Fr h₀ env.locals s.heap m₀) (N : News h₀ env.locals s.heap news) (h1 : m₀ y1 = some v1) (h2 : m₀ y2 = some v2) (hI : Inv 0 v1 v2 news)
    (turn : ∀ (n : Nat) I, b = (n : Int) → n < 4 → (∀ p ∈ news, p.1 < I) → ∀ i v1 v2 u news t h tk, i < n → Inv i v1 v2 news → Fr h₀ env.locals h (fun y => if y = x then some (.int (i : Int) t) else M2 y1 y2 st u v1 v2 m₀ y) → News h₀ env.locals h ((I, itR ((i + 1 : Nat) : Int) ((n : Int) - ((i + 1 : Nat) : Int))) :: news) →
      wpAny (model prog w) A (execs body env) (TurnR h₀ env.locals s y1 y2 st m₀ I (itR ((i + 1 : Nat) : Int) ((n : Int) - ((i + 1 : Nat) : Int))) (Inv (i + 1))) E { s with heap := h, toks := tk })
    (done : ∀ (n : Nat) v1 v2 u news h tk, b = (n : Int) → n < 4 → Inv n v1 v2 news → Fr h₀ env.locals h (M2 y1 y2 st u v1 v2 m₀) → News h₀ env.locals h news → Q .next { s with heap := h, toks := tk }) :
    wpAny (model prog w) A (pyIter (.ref r)) (fun it s₂ => LoopAtV prog w A h₀ env x body Q E it s₂) E s := by
  obtain ⟨n, rfl⟩ := Int.eq_ofNat_of_zero_le hb0
  have hn : n < 4 := by omega
  exact range_inv Inv hh hr hn F N h1 h2 hI (fun I hl => turn n I rfl hn hl) (fun v1 v2 u news h tk => done n v1 v2 u news h tk rfl hn)
end
end
section
variable {prog : Program} {w : World} {p : Program} {loose : List Str} {mean : ExcName → Option Value} {mg mb : Str → Option Value}
  {dp un : Nat} {gd : Option (List Code)} {cn : Str} {cs : Scope} {a : Addr} {ccd : Value} {cl : List (Str × Addr)} {outer : List Env} {A₀ : Around} {base h₀ : Heap} {L : Addr} {m : Str → Option Value} {s : Shared}
  {Q E : Value → Shared → Prop} {rest : List (Addr × Obj)}
theorem kw_Lh1 : True := by
  w_top off
  k_with_none
  k_with "~k_all" => (first | with_reducible assumption | exact ne_of_allLt (by with_reducible assumption) | assumption | exact ne_of_allLt (by assumption))
  k_with "~memr" => (first | (with_reducible exact List.mem_cons_self ..) | ((with_reducible refine List.mem_cons_of_mem _ ?_); walk_at "memr") | (with_reducible assumption) | ((with_reducible refine List.mem_append_left _ ?_); walk_at "memr") | ((with_reducible refine List.mem_append_right _ ?_); walk_at "memr"))
  k_with "~memd" => (first | exact List.mem_cons_self .. | (refine List.mem_cons_of_mem _ ?_; walk_at "memd") | (refine List.mem_append.mpr (Or.inl ?_); walk_at "memd") | (refine List.mem_append.mpr (Or.inr ?_); walk_at "memd") | assumption)
  k_with "~k_mem" => (first | walk_at "memr" | walk_at "memd")
  k_with "~k_in" => (first | with_reducible assumption | exact Frag.In.keeps (by with_reducible assumption) (Fr.keep (by with_reducible assumption)))
  k_with "~k_room" => (((try simp only [depth_under_make, depth_under_kw, depth_in1, depth_deeper, depth_caller]); (try dsimp only [ktrTop]); first | walk_at "room" | omega))
  k_with "~mul_fits" => (k_dflt (exact mulOk_fmod _ _))
  k_with "~exec Raise some none" => ((k_here; (with_reducible show wpAny _ _ (exec (Stmt.Raise (some (Expr.Call (Expr.Name (Str.ofString "ParseError") _) _ _ _)) none _) _) _ _ _); refine Raise_E rfl ?_))
  k_with "~RaiseBack" => ((k_dflt (refine' RaiseBack.intro ?k1_8 ?k2_8 ?k3_8 ?k4_8 ?k5_8 ?_; (case k1_8 => k_asm); (case k2_8 => k_asm); (case k3_8 => k_asm); (case k4_8 => k_is); (case k5_8 => k_mem))))
  k_with "~call ref" => ((k_here; (with_reducible show wpAny _ _ (call (Value.ref 91) _ _) _ _ _); k_dflt (refine' call_excE ?k1_9 ?k2_9 ?k3_9 ?k4_9 ?k5_9 ?k6_9 ?k7_9 ?k8_9 ?k9_9 ?_; (case k1_9 => k_asm); (case k2_9 => k_asm); (case k3_9 => k_asm); (case k4_9 => k_is); (case k5_9 => k_is); (case k6_9 => k_is); (case k7_9 => k_is); (case k8_9 => k_is); (case k9_9 => size_fits); k_whole; intro e' t' h' F' N' l1 l2 l3; (try k_lt l1); (try k_lt2 l2); (try k_lt l3); (try k_sweep); (try dsimp only); k_enter)))
  k_with "~instx" => (first | (refine' inst_exc ?N_10 ?h1_10 ?h2_10; (case N_10 => with_reducible assumption); (case h1_10 => walk_at "memr"); (case h2_10 => walk_at "memr")) | (refine' inst_exc2 ?N_10 ?h1_10 ?hc_10 ?hd_10 ?hn_10 ?h2_10; (case hc_10 => with_reducible assumption); (case hd_10 => with_reducible assumption); (case hn_10 => with_reducible assumption); (case N_10 => with_reducible assumption); (case h1_10 => walk_at "memr"); (case h2_10 => walk_at "memr")))
  k_with "~instn" => ((refine' InstAt.of_news ?N_11 ?h1_11 ?h2_11; (case N_11 => with_reducible assumption); (case h1_11 => walk_at "memr"); (case h2_11 => walk_at "memr")))
  k_with "~k_inst" => (first | walk_at "instn" | walk_at "instx")
  k_with "~setAttr ref" => ((k_here; k_dflt (first | (refine' setE_new ?k1_13 ?k2_13 ?k3_13 ?k4_13 ?k5_13 ?k6_13 ?k6b_13 ?k7_13 ?k8_13 ?k9_13 ?k10_13 ?_; (case k1_13 => k_asm); (case k2_13 => k_asm); (case k3_13 => k_asm); (case k4_13 => k_all); (case k5_13 => k_is); (case k6_13 => k_is); (case k6b_13 => exact rfl); (case k7_13 => k_is); (case k8_13 => k_is); (case k9_13 => k_put); (case k10_13 => exact Nat.le_of_ble_eq_true rfl); k_whole; intro h' dx' F' N' l1 l2; (try k_lt l1); (try k_lt2 l2); (try k_sweep); (try dsimp only)) | (refine' setE_old ?k1_13 ?k2_13 ?k3_13 ?k4_13 ?k5_13 ?k6_13 ?k7_13 ?k7b_13 ?k8_13 ?k9_13 ?k10_13 ?k11_13 ?k12_13 ?k13_13 ?_; (case k1_13 => k_asm); (case k2_13 => k_asm); (case k3_13 => k_asm); (case k4_13 => walk_at "instx"); (case k5_13 => exact rfl); (case k6_13 => k_is); (case k7_13 => k_is); (case k7b_13 => exact rfl); (case k8_13 => k_is); (case k9_13 => k_is); (case k10_13 => k_get); (case k11_13 => k_put); (case k12_13 => k_upd); (case k13_13 => exact Nat.le_of_ble_eq_true rfl); k_whole; intro h' F' N'; (try k_sweep); (try dsimp only)))))
  k_with "~getAttr ref" => ((k_here; k_dflt (refine' getE ?k1_14 ?k2_14 ?k3_14 ?k4_14 ?k5_14 ?k6_14 ?k7_14 ?k8_14 ?k9_14 ?k10_14 ?_; (case k1_14 => k_asm); (case k2_14 => k_asm); (case k3_14 => walk_at "instx"); (case k4_14 => k_is); (case k5_14 => k_is); (case k6_14 => k_is); (case k7_14 => k_is); (case k8_14 => k_is); (case k9_14 => k_get); (case k10_14 => k_handed); k_whole)))
  k_with "~getAttr ref" => ((k_here; k_dflt (refine' get_own ?k1_15 ?k2_15 ?k3_15 ?k4_15 ?k5_15 ?k6_15 ?k7_15 ?k8_15 ?k9_15 ?_; (case k1_15 => k_asm); (case k2_15 => k_asm); (case k3_15 => walk_at "instn"); (case k4_15 => k_is); (case k5_15 => k_is); (case k6_15 => k_is); (case k7_15 => k_is); (case k8_15 => k_get); (case k9_15 => k_handed); k_whole)))
  k_with "~leaving ref" => ((k_here; k_dflt (first | (refine' leave_raiseD2 ?k1_16 ?k2_16 ?k3_16 ?k4_16 ?_; (case k1_16 => k_asm); (case k2_16 => k_asm); (case k3_16 => k_asm); (case k4_16 => k_all); k_whole; intro h' R' U'; (try dsimp only at R' U' ⊢)) | (refine' leave_onD ?k1_16 ?k2_16 ?k3_16 ?k4_16 ?_; (case k3_16 => k_asm); (case k2_16 => k_asm); (case k1_16 => k_asm); (case k4_16 => k_asm); k_whole; intro h' R' U'; (try dsimp only at R' U' ⊢)))))
  k_with "~subscriptTail Attribute Name Attribute ref int" => ((k_here; (with_reducible show wpAny _ _ (subscriptTail _ _ (Value.ref _) (Value.int _ _)) _ _ _); k_dflt (refine' item_ctx ?k1_17 ?k2_17 ?k3_17 ?k4_17 ?k5_17 ?_ ?k6_17; (case k1_17 => k_asm); (case k2_17 => k_mem); (case k3_17 => omega); (case k4_17 => omega); (case k5_17 => k_asm); (case k6_17 => with_unfolding_all rfl); k_whole)))
  k_with "~compareOp Eq str str" => ((k_here; k_dflt (refine eq_ctx (by k_asm) ?_)))
  k_with "~compareOp NotEq str str" => ((k_here; k_dflt (refine ne_ctx (by k_asm) ?_)))
  k_with "~call type:str" => ((k_here; (with_reducible show wpAny _ _ (call (Value.type "str") [Value.int _ _]) _ _ _); k_dflt (refine PySem.P.str_of_int (log_small (by k_asm) (by k_asm)) ?_)))
  k_with "~compareOp NotIn str ref" => ((k_here; k_dflt (first | refine resv_notin (by k_asm) (by k_asm) (by k_asm) ?_ | refine joinw_notin (by k_asm) (by k_asm) (by k_asm) ?_)))
  k_with "~compareOp In str ref" => ((k_here; k_dflt (refine sgn2_in (by k_asm) (by k_asm) (by k_asm) ?_)))
  k_with "~size_fits" => (exact size1000 (by k_asm))
  k_with "~subscriptTail Attribute Name Attribute str int" => ((k_here; (with_reducible show wpAny _ _ (subscriptTail _ _ (Value.str _ _) (Value.int _ _)) _ _ _); k_dflt (refine item_sctx (by k_asm) (by k_asm) ?_)))
  k_with "~compareOp In str str" => ((k_here; k_dflt (refine in_sctx (by k_asm) ?_)))
  k_with "~call builtin:ord" => ((k_here; (with_reducible show wpAny _ _ (call (Value.builtin "ord") [Value.str ⟨#[_]⟩ _]) _ _ _); refine ord_sctx ?_))
  k_with "~TurnI" => ((k_dflt (refine' TurnI.intro ?k1_27 ?k2_27 ?k3_27 ?k4_27; (case k1_27 => k_asm); (case k2_27 => k_asm); (case k3_27 => exact rfl); (case k4_27 => (intro z hz; simp [hz])))))
  k_with "~call builtin:str.isascii" => ((k_here; refine isascii_ctx (by k_asm) ?_))
  k_with "~subscriptTail Name Name str int" => ((k_here; k_dflt (refine item_sctx (by k_asm) (by k_asm) ?_)))
  k_with "~subscriptTail Attribute Name Slice str ref" => ((walk_at "last subscriptTail"))
  k_with "~storeName" => ((k_here; k_dflt (refine' storeX_L ?F_31 ?N_31 ?_ ?a_31 ?b_31; (case F_31 => k_asm); (case N_31 => k_asm); (case a_31 => rfl); (case b_31 => rfl); k_whole; intro h' F' N'; (try k_sweep); (try dsimp only))))
  k_with "~execs cons" => ((k_here; k_fold))
  k_with "~room" => (first | exact room1 (by with_reducible assumption) (Nat.le_of_ble_eq_true rfl) | exact room0 (by with_reducible assumption) (Nat.le_of_ble_eq_true rfl) | exact room2 (by with_reducible assumption) (Nat.le_of_ble_eq_true rfl))
  k_with "~ltc" => (first | (with_reducible assumption) | (with_reducible exact And.left (by with_reducible assumption)) | (with_reducible exact And.left (And.right (by with_reducible assumption))) | (with_reducible exact And.left (And.right (And.right (by with_reducible assumption)))) | (with_reducible exact And.left (And.right (And.right (And.right (by with_reducible assumption))))) | (with_reducible exact And.left (And.right (And.right (And.right (And.right (by with_reducible assumption)))))) | (with_reducible exact And.left (And.right (And.right (And.right (And.right (And.right (by with_reducible assumption))))))) | (with_reducible exact And.left (And.right (And.right (And.right (And.right (And.right (And.right (by with_reducible assumption)))))))) | (with_reducible exact (And.right (by with_reducible assumption))) | (with_reducible exact (And.right (And.right (by with_reducible assumption)))))
  k_with "~k_ne" => (((refine neN ?_); (try dsimp only); first | (with_reducible exact Nat.ne_of_lt (by walk_at "ltc")) | (with_reducible exact Nat.ne_of_gt (by walk_at "ltc"))))
  k_with "~k_all" => (first | assumption | exact ne_of_allLt (by assumption) | exact Ne.symm (by assumption) | (show _ ≠ _; k_ne) | (exact obj_ne (by k_asm) (by k_mem) (by k_mem) (by intro e; exact absurd (Value.type.inj e) (by decide))) | ((refine List.forall_mem_cons.mpr ⟨?_, ?_⟩); (focus k_all); k_all))
  k_with "~k_upd" => (first | (refine' Upd.head ?a_105; (case a_105 => k_all)) | (refine' Upd.tail ?a_105 ?b_105; (case a_105 => k_all); (case b_105 => k_upd)))
  k_with "~call ref" => ((k_here; (with_reducible show wpAny _ _ (call (Value.ref 431) [Value.ref _, Value.int _ _]) _ _ _); k_dflt (refine' take_ok ?k1_106 ?k2_106 ?k3_106 ?k4_106 ?k5_106 ?k6_106 ?k7_106 ?k8_106 ?k9_106 ?k10_106 ?k11_106 ?k12_106 ?k13_106 ?k14_106 ?_; (case k1_106 => k_asm); (case k2_106 => k_asm); (case k3_106 => k_asm); (case k4_106 => first | k_asm | exact news_sw (by k_asm) | exact news_drop1 (by k_asm) | exact news_drop1 (news_sw (by k_asm)) | exact news_sw (news_drop1 (by k_asm))); (case k5_106 => k_asm); (case k6_106 => first | exact rfl | assumption); (case k7_106 => k_all); (case k8_106 => assumption); (case k9_106 => assumption); (case k10_106 => assumption); (case k11_106 => omega); (case k12_106 => omega); (case k13_106 => k_room); (case k14_106 => first | walk_at "room" | ((try simp only [units_under_make, units_in1, units_deeper, Around.mark_units, units_caller]); (try dsimp only [ktrTop]); first | walk_at "room" | omega)); k_whole; intro dW tdW xW yW txW tyW nW hW tkW fW nwW x0W y0W y1W d0W d1W; (try k_sweep); (try dsimp only))))
  k_with "~binaryOp Mult str int" => ((k_here; (with_reducible show wpAny _ _ (binaryOp Operator.Mult (Value.str (PySem.Str.ofString " ") _) (Value.int _ _)) _ _ _); k_dflt (refine' mul_sp ?k1_107 ?k2_107 ?_; (case k1_107 => omega); (case k2_107 => omega); k_whole; intro kS tS cS eS lS)))
  k_with "~call ref" => ((k_here; (with_reducible show wpAny _ _ (call (Value.ref 452) _) _ _ _); k_dflt (refine' word_ok ?k1_108 ?k2_108 ?k3_108 ?k4_108 ?k5_108 ?k6_108 ?k7_108 ?k8_108 ?k9_108 ?k10_108 ?k11_108 ?k12_108 (fun WW nvW frW vDW tupW tWW nnW xW yW txW tyW nW hW tkW memW lenW1 fW nwW x0W y0W y1W => ?_); (case k1_108 => k_asm); (case k2_108 => k_asm); (case k3_108 => k_asm); (case k4_108 => first | k_asm | exact news_sw (by k_asm)); (case k5_108 => k_asm); (case k6_108 => first | exact rfl | assumption); (case k7_108 => k_all); (case k8_108 => assumption); (case k9_108 => assumption); (case k10_108 => assumption); (case k11_108 => k_room); (case k12_108 => first | walk_at "room" | ((try simp only [units_under_make, units_in1, units_deeper, Around.mark_units, units_caller]); (try dsimp only [ktrTop]); first | walk_at "room" | omega)); all_goals (k_whole; (try k_sweep); (try dsimp only)))))
  k_with "~call type:range" => ((k_here; (with_reducible show wpAny _ _ (call (Value.type "range") [Value.int _ _]) _ _ _); (rename Fr _ _ _ _ => F'); (rename News _ _ _ _ => N'); (with_unfolding_all refine range1_rows F' N' ?_; intro hRg tkRg t1Rg u1Rg v1Rg hhRg FRg NRg kRg)))
  k_with "~pyIter ref" => ((k_here; (with_reducible show wpAny _ _ (pyIter (Value.ref _)) (fun it s₂ => LoopAtV _ _ _ _ _ _ _ _ _ it s₂) _ _); (rename Fr _ _ _ _ => lF'); (rename News _ _ _ _ => lN'); (rename IsRange _ _ _ _ _ _ _ _ => rgX); (with_unfolding_all refine' range_inv2 (y1 := PySem.Str.ofString "text") (y2 := PySem.Str.ofString "behind") (st := [PySem.Str.ofString "turn", PySem.Str.ofString "word", PySem.Str.ofString "name", PySem.Str.ofString "free"]) (HInv _ _ _) ?k1_110 rgX ?k3_110 ?k4_110 lF' lN' ?k7_110 ?k8_110 ?k9_110 (fun nR IR bR nR4 lR iR v1R v2R uR newsR tR hR tkR hiR invR fR nwR => ?_) (fun nR v1R v2R uR newsR hR tkR bR nR4 invR fR nwR => ?_); (case k1_110 => exact rfl); (case k3_110 => omega); (case k4_110 => omega); (case k7_110 => exact rfl); (case k8_110 => exact rfl); (case k9_110 => (refine' HInv.start ?q1_110 ?q2_110 ?q3_110 ?q4_110; (case q1_110 => assumption); (case q2_110 => assumption); (case q3_110 => assumption); (case q4_110 => assumption)))); all_goals (k_dflt (cases invR); (rename HeadT _ _ _ _ => hTH); (rename (Array.size _ ≤ _) => hszH); have lenTH := head_len100 hTH (by first | exact le3_of (by assumption) (by assumption) | exact Nat.le_of_lt_succ (by assumption) | omega); have szH1 := Nat.le_trans hszH (by first | exact le1000_of (by assumption) (by assumption) | exact le_of4 (by assumption) | omega : _ ≤ 1000); (try k_lt lR); (try k_whole))))
  k_with "~TurnR" => ((k_dflt (refine' TurnR.intro ?k1_111 ?k2_111 ?k3_111 ?k4_111 ?k5_111 ?k6_111 ?k7_111; (case k1_111 => k_asm); (case k2_111 => first | k_asm | exact news_sw (by k_asm) | exact news_t3 (by k_asm)); (case k3_111 => exact rfl); (case k4_111 => exact rfl); (case k5_111 => (intro z z1 z2 z3; repeat (first | (with_reducible exact M2_other z1 z2 z3) | (with_reducible refine ite_o ?ne_111 ?_; (case ne_111 => first | (with_reducible exact z1) | (with_reducible exact z2) | (with_reducible refine z3 _ ?zm_111; (case zm_111 => walk_at "memr"))))))); (case k6_111 => k_all); (case k7_111 => first | (refine' HInv.good ?q1_111 ?q2_111 ?q3_111 ?q4_111 ?q5_111 ?q6_111 ?q7_111 ?q8_111 ?q9_111 ?q10_111; (case q1_111 => assumption); (case q2_111 => exact (WordK.str (by assumption)).1); (case q3_111 => assumption); (case q4_111 => assumption); (case q5_111 => assumption); (case q6_111 => assumption); (case q7_111 => assumption); (case q8_111 => assumption); (case q9_111 => assumption); (case q10_111 => assumption)) | (refine' HInv.stop ?q1_111 ?q2_111 ?q3_111 ?q4_111 ?q5_111 ?q6_111 ?q7_111 ?q8_111 ?q9_111 ?q10_111; (case q1_111 => assumption); (case q2_111 => exact WordK.non (by assumption)); (case q3_111 => assumption); (case q4_111 => assumption); (case q5_111 => assumption); (case q6_111 => assumption); (case q7_111 => assumption); (case q8_111 => assumption); (case q9_111 => assumption); (case q10_111 => assumption)) | (refine' HInv.after ?q1_111 ?q2_111 ?q3_111 ?q4_111 ?q5_111 ?q6_111 ?q7_111 ?q8_111 ?q9_111 ?q10_111; (case q1_111 => assumption); (case q2_111 => first | exact Or.inl (WordK.non (by assumption)) | exact Or.inr ⟨_, (WordK.str (by assumption)).1⟩); (case q3_111 => assumption); (case q4_111 => assumption); (case q5_111 => assumption); (case q6_111 => assumption); (case q7_111 => assumption); (case q8_111 => assumption); (case q9_111 => assumption); (case q10_111 => assumption))))))
  k_with "~compareOp Is none" => ((k_here; (with_reducible show wpAny _ _ (compareOp CmpOp.Is _ Value.none) _ _ _); k_dflt (refine' word_is ?k1_112 (fun eN => ?_) (fun vN tN eN lN => ?_); (case k1_112 => with_reducible assumption); all_goals subst eN)))
  k_with "~compareOp Is none" => ((k_here; (with_reducible show wpAny _ _ (compareOp CmpOp.Is (bval _ _) Value.none) _ _ _); k_dflt (refine' b_is (fun eN => ?_) (fun kN eN => ?_); all_goals (subst eN; (try (dsimp only [bval] at *))))))
  trivial
set_option maxHeartbeats 8000000 in
theorem lhead_ok {src : Addr} {x y : Int} {tx ty : Tok} {n : Nat}
  (B : Below A₀ base outer h₀) (F : Fr h₀ L s.heap m) (X : (Mine.K1 w.params).In h₀) (N : News h₀ L s.heap ((src, listOf #[.int x tx, .int y ty] n) :: rest)) (T : Top p loose mean mg mb h₀) (hk : cs.kind = .function)
  (hr : ∀ p ∈ rest, p.1 ≠ src) (hx : 0 ≤ x) (hy0 : 0 ≤ y) (hy : y < 2147483647) (hd : dp + 10 < recursionLimit) (hu : un + 80 < cLine)
  (hret : ∀ i t ns b tup ln its nl tt tb nn x' y' tx' ty' n' h' tk', i ≤ 3 → HeadT i t ns b → Fr h₀ L h' m → News h₀ L h' ((tup, tupD [.str t tt, .ref ln, bval b tb] nn) :: (src, listOf #[.int x' tx', .int y' ty'] n') :: (ln, listOf its nl) :: rest) → StrsAre its.toList ns → 0 ≤ x' → 0 ≤ y' → y' < 2147483647 → tup ≠ src → ln ≠ src → Q (.ref tup) { s with heap := h', toks := tk' }) :
  wpAny (model prog w) (ktrTop dp un gd cn cs L a ccd cl outer) (call (.ref 459) [.ref src]) Q E s := by
  refine wpAny_call ?_
  k_dflt ktr_enter
  k_steps
  (rename HeadT _ _ _ _ => hT9; rename StrsAre _ _ => hS9; rename News _ _ _ _ => nw9)
  exact hret _ _ _ _ _ _ _ _ _ _ _ _ _ _ _ _ _ _ (by omega) hT9 (by k_asm) nw9 hS9 (by assumption) (by assumption) (by assumption) (by k_all) (by k_all)
end
section
open PySem PySem.W PySem.Calls PyProof.Rows
section
variable {prog : Program} {w : World} {A : Around} {E : Value → Shared → Prop} {s : Shared} {h₀ : Heap} {L a b : Addr} {na nb : Nat} {news : List (Addr × Obj)} {xs ys : List Value} {ds es : List Dat} {Q : Value → Shared → Prop}
/-- two tuples of plain data that are alike -/
theorem eqtup_ctx (N : News h₀ L s.heap news) (ma : (a, tupD xs na) ∈ news) (mb : (b, tupD ys nb) ∈ news) (Da : DatAll news xs ds) (Db : DatAll news ys es) (hk : ∀ d ∈ ds, kqdOk 8 d = true) (hu : A.units + 64 < cLine) (he : ds = es) (h : Q (.bool true) s) : wpAny (model prog w) A (compareOp .Eq (.ref a) (.ref b)) Q E s := by
  subst he
  obtain ⟨as, ra⟩ := kqd_all N 8 Da hk
  obtain ⟨bs, rb⟩ := kqd_all N 8 Db hk
  have la := kqd_lay 9 (.tuple ds) (by simpa [kqdOk] using hk)
  rw [kqdP] at la
  have sh : PySem.SeqAt.shaped (.tuple (kqdPs ds)) = true := by
    unfold PySem.SeqAt.shaped; rw [la.1, Bool.true_and]; exact decide_eq_true (Nat.le_trans la.2 (by decide))
  have e : PyData.eqv (.tuple (kqdPs ds)) (.tuple (kqdPs ds)) = true := by
    have q := kqd_eqv 9 (.tuple ds) (.tuple ds) 9 (by simpa [kqdOk] using hk) (by simpa [kqdOk] using hk)
    rw [kqdP] at q
    exact q.mpr rfl
  exact eq_dataH (reads_tuple_at (N.get ma) rfl rfl (by simpa using ra)) (reads_tuple_at (N.get mb) rfl rfl (by simpa using rb)) sh sh hu (by rw [e]; exact h)
end
theorem news_mvS {h₀ h : Heap} {L src : Addr} {x y : Int} {tx ty : Tok} {n : Nat} {l r : List (Addr × Obj)} (N : News h₀ L h (l ++ (src, listOf #[.int x tx, .int y ty] n) :: r)) : News h₀ L h ((src, listOf #[.int x tx, .int y ty] n) :: (l ++ r)) := news_mv N
/-- reading T as a type answers ds -/
noncomputable def RdOk (T : Str) (ds : List Dat) : Prop :=
  T.length ≤ 1000 ∧ (∀ d ∈ ds, kqdOk 8 d = true) ∧ ∃ ws vs j out q, Scan T 0 ws ∧ (ws ++ [endW T]).length ≤ 1001 ∧ Plain (ws ++ [endW T]) 0 vs j ∧ (∀ v ∈ vs, PyData.strOk v = true) ∧ (Txt.join (Str.ofString " ") vs).length ≤ 100000 ∧ (vs.map (·.length)).sum + vs.length * 64 ≤ 16777216 ∧
    TypeT (ws ++ [endW T]) vs j out ∧ PlaceT (ws ++ [endW T]) out q ∧ rdat out q = ds
noncomputable def NmOk (T : Str) (ds : List Dat) : Prop :=
  T.length ≤ 1000 ∧ (∀ d ∈ ds, kqdOk 8 d = true) ∧ ∃ ws out q, Scan T 0 ws ∧ (ws ++ [endW T]).length ≤ 1001 ∧ NamesT (ws ++ [endW T]) 0 out ∧ PlaceN (ws ++ [endW T]) out q ∧ ndat out q = ds
section
variable {prog : Program} {w : World} {p : Program} {loose : List Str} {mean : ExcName → Option Value} {mg mb : Str → Option Value}
  {dp un : Nat} {gd : Option (List Code)} {cn : Str} {cs : Scope} {a : Addr} {ccd : Value} {outer : List Env} {A₀ : Around} {base h₀ : Heap} {L : Addr} {m : Str → Option Value} {s : Shared}
  {Q E : Value → Shared → Prop} {rest : List (Addr × Obj)}
theorem rdl_ok {text : Str} {tx : Tok} {ds : List Dat}
  (B : Below A₀ base outer h₀) (F : Fr h₀ L s.heap m) (X : (Mine.K1 w.params).In h₀) (N : News h₀ L s.heap rest) (T : Top p loose mean mg mb h₀) (hk : cs.kind = .function)
  (XB : (Mine.K1 w.params).In base) (TB : Top p loose mean mg mb base) (D : KtsDicts (outer.filterMap (·.frame)) h₀)
  (hR : RdOk text ds) (hd : dp + 100 < recursionLimit) (hu : un + 300 < cLine)
  (hret : ∀ g₀' tup vals n h' tk', KtsTurn (outer.filterMap (·.frame)) h₀ g₀' → Fr g₀' L h' m → News g₀' L h' ((tup, tupD vals n) :: rest) → DatAll [] vals ds → (∀ d ∈ ds, kqdOk 8 d = true) → Below A₀ base outer g₀' → (Mine.K1 w.params).In g₀' → Top p loose mean mg mb g₀' → KtsDicts (outer.filterMap (·.frame)) g₀' → Q (.ref tup) { s with heap := h', toks := tk' }) :
  wpAny (model prog w) (ktrTop dp un gd cn cs L a ccd [] outer) (call (.ref 445) [.str text tx, .bool true]) Q E s := by
  obtain ⟨hT, hk8, ws, vs, j, out, q, hsc, hlen, hp, ho, hjl, hjs, hO, hP, rfl⟩ := hR
  exact rtype_ok B F X N T hk XB TB D hT hsc hlen hp ho hjl hjs hO hP hd hu fun g₀' tup vals n h' tk' t1 t2 t3 t4 t5 t6 t7 t8 => hret g₀' tup vals n h' tk' t1 t2 t3 t4 hk8 t5 t6 t7 t8
theorem nml_ok {text : Str} {tx : Tok} {ds : List Dat}
  (B : Below A₀ base outer h₀) (F : Fr h₀ L s.heap m) (X : (Mine.K1 w.params).In h₀) (N : News h₀ L s.heap rest) (T : Top p loose mean mg mb h₀) (hk : cs.kind = .function)
  (XB : (Mine.K1 w.params).In base) (TB : Top p loose mean mg mb base) (D : KtsDicts (outer.filterMap (·.frame)) h₀)
  (hR : NmOk text ds) (hd : dp + 100 < recursionLimit) (hu : un + 300 < cLine)
  (hret : ∀ g₀' tup vals n ex h' tk', KtsTurn (outer.filterMap (·.frame)) h₀ g₀' → Fr g₀' L h' m → News g₀' L h' ((tup, tupD vals n) :: (ex ++ rest)) → DatAll ex vals ds → (∀ d ∈ ds, kqdOk 8 d = true) → Below A₀ base outer g₀' → (Mine.K1 w.params).In g₀' → Top p loose mean mg mb g₀' → KtsDicts (outer.filterMap (·.frame)) g₀' → Q (.ref tup) { s with heap := h', toks := tk' }) :
  wpAny (model prog w) (ktrTop dp un gd cn cs L a ccd [] outer) (call (.ref 445) [.str text tx, .bool false]) Q E s := by
  obtain ⟨hT, hk8, ws, out, q, hsc, hlen, hO, hP, rfl⟩ := hR
  exact rnames_ok B F X N T hk XB TB D hT hsc hlen hO hP hd hu fun g₀' tup vals n ex h' tk' t1 t2 t3 t4 t5 t6 t7 t8 => hret g₀' tup vals n ex h' tk' t1 t2 t3 t4 hk8 t5 t6 t7 t8
end
noncomputable def ENDS : List Str := [Str.ofString "", Str.ofString "NOT", Str.ofString ")", Str.ofString "= 5"]
noncomputable def toldD (ns : List Str) : Dat := if (ns == []) = true then .none else .str (Txt.join (Str.ofString " ") ns)
theorem head_join {i : Nat} {t : Str} {ns : List Str} {b : Option Nat} (h : HeadT i t ns b) (hi : i ≤ 3) : (ns.map (·.length)).sum + ns.length * 64 ≤ 16777216 ∧ (Txt.join (Str.ofString " ") ns).length ≤ 1000 ∧ t.length ≤ 100 ∧ (∀ v ∈ ns, PyData.strOk v = true) := by
  obtain ⟨h1, h2, h3, h4⟩ := head_len h
  have h5 : ∀ v ∈ ns, PyData.strOk v = true := by
    clear h1 h2 h3 h4 hi
    have hw : ∀ q ∈ WSOME, PyData.strOk q.2 = true := by decide +kernel
    induction h with
    | start => simp
    | good _ hm _ _ ih =>
      intro v hv
      rcases List.mem_append.mp hv with hv | hv
      · exact ih v hv
      · rw [List.mem_singleton.mp hv]; exact hw _ hm
    | stop _ _ _ _ ih => exact ih
    | after _ _ _ _ ih => exact ih
  have e1 : (Str.ofString " ").length = 1 := by decide +kernel
  refine ⟨?_, ?_, by omega, h5⟩
  · rcases ns with _ | ⟨a, _ | ⟨b, _ | ⟨c, _ | ⟨d, r⟩⟩⟩⟩
    · simp
    · have := h3 a (by simp); simp; omega
    · have := h3 a (by simp); have := h3 b (by simp); simp; omega
    · have := h3 a (by simp); have := h3 b (by simp); have := h3 c (by simp); simp; omega
    · simp at h2; omega
  · rcases ns with _ | ⟨a, _ | ⟨b, _ | ⟨c, _ | ⟨d, r⟩⟩⟩⟩
    · exact Nat.zero_le _
    · have := h3 a (by simp); show a.length ≤ 1000; omega
    · have := h3 a (by simp); have := h3 b (by simp)
      show (a ++ Str.ofString " " ++ b).length ≤ 1000
      simp only [Str.length_append]; omega
    · have := h3 a (by simp); have := h3 b (by simp); have := h3 c (by simp)
      show (a ++ Str.ofString " " ++ b ++ Str.ofString " " ++ c).length ≤ 1000
      simp only [Str.length_append]; omega
    · simp at h2; omega
theorem ends_len {u : Str} (h : u ∈ ENDS) : u.length ≤ 3 := by
  have : ∀ q ∈ ENDS, q.length ≤ 3 := by decide +kernel
  exact this _ h
theorem br_len {at' : Int} {t : Str} {o : Str ⊕ (Str × Int)} (h : BrT at' t o) : t.length ≤ 16 ∧ ∀ d, o = .inl d → d.length ≤ 16 := by
  have e := one_len
  cases h with
  | bad1 h _ => have := nnone_len h; exact ⟨by simp only [Str.length_append]; omega, fun d hd => by cases hd⟩
  | one h => have := nsome_len h; exact ⟨by simp only [Str.length_append]; omega, fun d hd => by injection hd with hd; subst hd; simp only [Str.length_append]; omega⟩
  | noClose h _ => have := nsome_len h; exact ⟨by simp only [Str.length_append]; omega, fun d hd => by cases hd⟩
  | bad2 h h' _ => have := nsome_len h; have := nnone_len h'; exact ⟨by simp only [Str.length_append]; omega, fun d hd => by cases hd⟩
  | two h h' => have := nsome_len h; have := nsome_len h'; exact ⟨by simp only [Str.length_append]; omega, fun d hd => by injection hd with hd; subst hd; simp only [Str.length_append]; omega⟩
theorem br_lenI {at' : Int} {t d : Str} (h : BrT at' t (.inl d)) : t.length ≤ 16 ∧ d.length ≤ 16 := ⟨(br_len h).1, (br_len h).2 d rfl⟩
theorem br_lenR {at' : Int} {t : Str} {o : Str × Int} (h : BrT at' t (.inr o)) : t.length ≤ 16 := (br_len h).1
section
variable {prog : Program} {w : World} {A : Around} {E : Value → Shared → Prop} {s : Shared} {h₀ : Heap} {L a b : Addr} {na nb : Nat} {news : List (Addr × Obj)} {items items' : Array Value} {vs us : List Str} {Q : Value → Shared → Prop}
theorem eqstrs_two (N : News h₀ L s.heap news) (ma : (a, listOf items na) ∈ news) (mb : (b, listOf items' nb) ∈ news) (Da : StrsAre items.toList vs) (Db : StrsAre items'.toList us) (oa : ∀ v ∈ vs, PyData.strOk v = true) (ob : ∀ v ∈ us, PyData.strOk v = true) (hu : A.units + 64 < cLine) (h1 : (vs == us) = true → Q (.bool true) s) (h2 : (vs == us) = false → Q (.bool false) s) : wpAny (model prog w) A (compareOp .Eq (.ref a) (.ref b)) Q E s := by
  cases h : (vs == us) with
  | true => exact eqstrs_ctx N ma mb Da Db oa ob hu h (h1 h)
  | false => exact eqstrs_ctx N ma mb Da Db oa ob hu h (h2 h)
end
end
section
open PySem PySem.W PySem.Calls PyProof.Rows
noncomputable def cpl (x : Str) : List Nat := x.cps.toList
theorem cpl_app (x y : Str) : cpl (x ++ y) = cpl x ++ cpl y := by unfold cpl; rw [Str.cps_append]; simp
theorem cpl_len (x : Str) : (cpl x).length = x.length := by unfold cpl; rfl
theorem cpl_sp (k : Nat) : cpl (spN k) = List.replicate k 32 := rfl
theorem sl_blanks : ∀ (k p : Nat) (l : List Nat) (ws : List PW), ScanL (p + k) l ws → ScanL p (List.replicate k 32 ++ l) ws
  | 0, p, l, ws, h => h
  | k + 1, p, l, ws, h => by
    refine ScanL.blank (n := 1) (l' := List.replicate k 32 ++ l) ?_ rfl (sl_blanks k (p + 1) l ws (by rw [show p + 1 + k = p + (k + 1) by omega]; exact h))
    rfl
/-- the word W makes one word g when a blank or a comma follows -/
noncomputable def TokW (W : Str) (g : Str × Str × WV) : Prop := ∀ (c : Nat) (l : List Nat), (c = 32 ∨ c = 44) → tk (cpl W ++ c :: l) = some (some g, (cpl W).length)
theorem sl_word {W : Str} {g : Str × Str × WV} (h : TokW W g) {c p : Nat} {l : List Nat} {ws : List PW} (hc : c = 32 ∨ c = 44) (hs : ScanL (p + W.length) (c :: l) ws) : ScanL p (cpl W ++ c :: l) (pwAt p g :: ws) :=
  ScanL.word (h c l hc) (by rw [List.drop_left]) (by rw [cpl_len]; exact hs)
theorem tw_mk {W : Str} {g : Str × Str × WV} {l : List Nat} (h : cpl W = l) (h2 : ∀ r, tk (l ++ 32 :: r) = some (some g, l.length)) (h3 : ∀ r, tk (l ++ 44 :: r) = some (some g, l.length)) : TokW W g := by
  rintro c r (rfl | rfl)
  · rw [h]; exact h2 r
  · rw [h]; exact h3 r
noncomputable abbrev nmW (x y : String) : Str × Str × WV := (Str.ofString "name", Str.ofString x, .str (Str.ofString y))
theorem tok_Text : TokW (Str.ofString "Text") (nmW "TEXT" "Text") := tw_mk (l := [84, 101, 120, 116]) (by decide +kernel) (fun _ => by kernel_rfl) (fun _ => by kernel_rfl)
theorem tok_q7 : TokW (Str.ofString "q7") (nmW "Q7" "q7") := tw_mk (l := [113, 55]) (by decide +kernel) (fun _ => by kernel_rfl) (fun _ => by kernel_rfl)
theorem tok_ab : TokW (Str.ofString "\"a \"\"b\"") (nmW "" "a \"b") := tw_mk (l := [34, 97, 32, 34, 34, 98, 34]) (by decide +kernel) (fun _ => by kernel_rfl) (fun _ => by kernel_rfl)
theorem tok_xy : TokW (Str.ofString "[x y]") (nmW "" "x y") := tw_mk (l := [91, 120, 32, 121, 93]) (by decide +kernel) (fun _ => by kernel_rfl) (fun _ => by kernel_rfl)
theorem tok_QN : TokW (Str.ofString "\"NOT\"") (nmW "" "NOT") := tw_mk (l := [34, 78, 79, 84, 34]) (by decide +kernel) (fun _ => by kernel_rfl) (fun _ => by kernel_rfl)
theorem tok_key : TokW (Str.ofString "key") (nmW "KEY" "key") := tw_mk (l := [107, 101, 121]) (by decide +kernel) (fun _ => by kernel_rfl) (fun _ => by kernel_rfl)
theorem tok_l : TokW (Str.ofString "`l`") (nmW "" "l") := tw_mk (l := [96, 108, 96]) (by decide +kernel) (fun _ => by kernel_rfl) (fun _ => by kernel_rfl)
theorem tok_NOT : TokW (Str.ofString "NOT") (nmW "NOT" "NOT") := tw_mk (l := [78, 79, 84]) (by decide +kernel) (fun _ => by kernel_rfl) (fun _ => by kernel_rfl)
theorem tok_Left : TokW (Str.ofString "Left") (nmW "LEFT" "Left") := tw_mk (l := [76, 101, 102, 116]) (by decide +kernel) (fun _ => by kernel_rfl) (fun _ => by kernel_rfl)
theorem tok_5 : TokW (Str.ofString "5") (Str.ofString "number", Str.ofString "", .int 5) := tw_mk (l := [53]) (by decide +kernel) (fun _ => by kernel_rfl) (fun _ => by kernel_rfl)
theorem tok_t : TokW (Str.ofString "'t'") (Str.ofString "text", Str.ofString "", .str (Str.ofString "t")) := tw_mk (l := [39, 116, 39]) (by decide +kernel) (fun _ => by kernel_rfl) (fun _ => by kernel_rfl)
theorem tok_eq : TokW (Str.ofString "=") (Str.ofString "sign", Str.ofString "=", .none) := tw_mk (l := [61]) (by decide +kernel) (fun _ => by kernel_rfl) (fun _ => by kernel_rfl)
/-- a free plain word: one name with the value v -/
theorem wsome_tok {W v : Str} (h : (W, v) ∈ WSOME) : ∃ g, TokW W g ∧ g.2.2 = .str v ∧ (∀ p, isPlain (pwAt p g) = true) ∧ (∀ p, isFree (pwAt p g) = true) ∧ (∀ p, isSgn (pwAt p g) (Str.ofString ",") = false) ∧ (∀ p, isSgn (pwAt p g) (Str.ofString ")") = false) ∧ (∀ p, isSgn (pwAt p g) (Str.ofString "(") = false) := by
  unfold WSOME at h
  simp only [List.mem_cons, List.not_mem_nil, or_false, Prod.mk.injEq] at h
  rcases h with ⟨rfl, rfl⟩ | ⟨rfl, rfl⟩ | ⟨rfl, rfl⟩ | ⟨rfl, rfl⟩ | ⟨rfl, rfl⟩ | ⟨rfl, rfl⟩ | ⟨rfl, rfl⟩
  · exact ⟨_, tok_Text, rfl, fun p => by kernel_rfl, fun p => by kernel_rfl, fun p => by kernel_rfl, fun p => by kernel_rfl, fun p => by kernel_rfl⟩
  · exact ⟨_, tok_q7, rfl, fun p => by kernel_rfl, fun p => by kernel_rfl, fun p => by kernel_rfl, fun p => by kernel_rfl, fun p => by kernel_rfl⟩
  · exact ⟨_, tok_ab, rfl, fun p => by kernel_rfl, fun p => by kernel_rfl, fun p => by kernel_rfl, fun p => by kernel_rfl, fun p => by kernel_rfl⟩
  · exact ⟨_, tok_xy, rfl, fun p => by kernel_rfl, fun p => by kernel_rfl, fun p => by kernel_rfl, fun p => by kernel_rfl, fun p => by kernel_rfl⟩
  · exact ⟨_, tok_QN, rfl, fun p => by kernel_rfl, fun p => by kernel_rfl, fun p => by kernel_rfl, fun p => by kernel_rfl, fun p => by kernel_rfl⟩
  · exact ⟨_, tok_key, rfl, fun p => by kernel_rfl, fun p => by kernel_rfl, fun p => by kernel_rfl, fun p => by kernel_rfl, fun p => by kernel_rfl⟩
  · exact ⟨_, tok_l, rfl, fun p => by kernel_rfl, fun p => by kernel_rfl, fun p => by kernel_rfl, fun p => by kernel_rfl, fun p => by kernel_rfl⟩
theorem wnone_tok {W : Str} (h : W ∈ WNONE) : ∃ g, TokW W g ∧ (∀ p, isPlain (pwAt p g) = false) ∧ (∀ p, isFree (pwAt p g) = false) ∧ (∀ p, isSgn (pwAt p g) (Str.ofString ",") = false) ∧ (∀ p, isSgn (pwAt p g) (Str.ofString ")") = false) ∧ (∀ p, isSgn (pwAt p g) (Str.ofString "(") = false) := by
  unfold WNONE at h
  simp only [List.mem_cons, List.not_mem_nil, or_false] at h
  rcases h with rfl | rfl | rfl | rfl
  · exact ⟨_, tok_NOT, fun p => by kernel_rfl, fun p => by kernel_rfl, fun p => by kernel_rfl, fun p => by kernel_rfl, fun p => by kernel_rfl⟩
  · exact ⟨_, tok_5, fun p => by kernel_rfl, fun p => by kernel_rfl, fun p => by kernel_rfl, fun p => by kernel_rfl, fun p => by kernel_rfl⟩
  · exact ⟨_, tok_t, fun p => by kernel_rfl, fun p => by kernel_rfl, fun p => by kernel_rfl, fun p => by kernel_rfl, fun p => by kernel_rfl⟩
  · exact ⟨_, tok_eq, fun p => by kernel_rfl, fun p => by kernel_rfl, fun p => by kernel_rfl, fun p => by kernel_rfl, fun p => by kernel_rfl⟩
theorem left_tok : TokW (Str.ofString "Left") (nmW "LEFT" "Left") ∧ (∀ p, isPlain (pwAt p (nmW "LEFT" "Left")) = false) ∧ (∀ p, isFree (pwAt p (nmW "LEFT" "Left")) = true) ∧ (∀ p, isSgn (pwAt p (nmW "LEFT" "Left")) (Str.ofString ",") = false) ∧ (∀ p, isSgn (pwAt p (nmW "LEFT" "Left")) (Str.ofString ")") = false) ∧ (∀ p, isSgn (pwAt p (nmW "LEFT" "Left")) (Str.ofString "(") = false) :=
  ⟨tok_Left, fun p => by kernel_rfl, fun p => by kernel_rfl, fun p => by kernel_rfl, fun p => by kernel_rfl, fun p => by kernel_rfl⟩
end
section
open PySem PySem.W PySem.Calls PyProof.Rows
inductive PP : List PW → List Str → Prop
  | nil : PP [] []
  | cons {g : PW} {v : Str} {hs : List PW} {vs : List Str} : isPlain g = true → g.val = .str v → PP hs vs → PP (g :: hs) (v :: vs)
theorem PP.snoc {hs : List PW} {vs : List Str} {g : PW} {v : Str} (h : PP hs vs) (h1 : isPlain g = true) (h2 : g.val = .str v) : PP (hs ++ [g]) (vs ++ [v]) := by
  induction h with
  | nil => exact .cons h1 h2 .nil
  | cons a b _ ih => exact .cons a b ih
theorem at_pre (pre l : List PW) (i : Nat) : (pre ++ l)[pre.length + i]? = l[i]? := by
  rw [List.getElem?_append_right (by omega), Nat.add_sub_cancel_left]
theorem at_pre0 (pre l : List PW) : (pre ++ l)[pre.length]? = l[0]? := at_pre pre l 0
theorem PP.plain {hs : List PW} {vs : List Str} (h : PP hs vs) {g : PW} (hg : isPlain g = false) (r : List PW) : ∀ pre, Plain (pre ++ (hs ++ g :: r)) pre.length vs (pre.length + hs.length) := by
  induction h with
  | nil => intro pre; exact Plain.stop (at_pre0 pre (g :: r)) hg
  | @cons a v hs vs h1 h2 _ ih =>
    intro pre
    refine Plain.more (at_pre0 pre _) h1 h2 ?_
    have := ih (pre ++ [a])
    rw [List.append_assoc, List.length_append] at this
    rw [List.length_cons, Nat.add_comm hs.length 1, ← Nat.add_assoc]
    exact this
noncomputable def Scn (t : Str) (hs : List PW) : Prop := ∀ l ws, ScanL t.length l ws → ScanL 0 (cpl t ++ l) (hs ++ ws)
theorem scn_sp (k : Nat) : Scn (spN k) [] := fun l ws h => by
  rw [cpl_sp]
  exact sl_blanks k 0 l ws (by rw [Nat.zero_add, ← spN_len k]; exact h)
theorem scn_word {t W : Str} {hs : List PW} {g : Str × Str × WV} {k : Nat} (h : Scn t hs) (hw : TokW W g) (hk : 1 ≤ k) : Scn (t ++ W ++ spN k) (hs ++ [pwAt t.length g]) := fun l ws hl => by
  obtain ⟨k, rfl⟩ : ∃ k', k = k' + 1 := ⟨k - 1, by omega⟩
  have e : cpl (t ++ W ++ spN (k + 1)) ++ l = cpl t ++ (cpl W ++ 32 :: (List.replicate k 32 ++ l)) := by
    rw [cpl_app, cpl_app, cpl_sp, List.replicate_succ]; simp
  rw [e, List.append_assoc]
  refine h _ _ (sl_word hw (.inl rfl) ?_)
  have := sl_blanks (k + 1) (t.length + W.length) l ws (by
    rw [Str.length_append, Str.length_append, spN_len] at hl
    exact hl)
  exact this
theorem wn_tok {W : Str} (h : W ∈ Str.ofString "Left" :: WNONE) : ∃ g, TokW W g ∧ (∀ p, isPlain (pwAt p g) = false) ∧ (∀ p, isSgn (pwAt p g) (Str.ofString "(") = false) := by
  rcases List.mem_cons.mp h with rfl | h
  · exact ⟨_, left_tok.1, left_tok.2.1, left_tok.2.2.2.2.2⟩
  · obtain ⟨g, h1, h2, _, _, _, h3⟩ := wnone_tok h
    exact ⟨g, h1, h2, h3⟩
theorem head_scan {i : Nat} {t : Str} {ns : List Str} {b : Option Nat} (h : HeadT i t ns b) : ∃ hs, Scn t hs ∧ hs.length = i ∧
    match b with
    | none => PP hs ns
    | some k => ∃ h1 g h2, hs = h1 ++ g :: h2 ∧ PP h1 ns ∧ isPlain g = false ∧ isSgn g (Str.ofString "(") = false ∧ g.pl = (k : Int) := by
  induction h with
  | start h => exact ⟨[], scn_sp _, rfl, .nil⟩
  | good _ hm h1 h2 ih =>
    obtain ⟨hs, s1, s2, s3⟩ := ih
    obtain ⟨g, g1, g2, g3, _⟩ := wsome_tok hm
    exact ⟨_, scn_word s1 g1 h1, by simp [s2], s3.snoc (g3 _) g2⟩
  | stop _ hm h1 h2 ih =>
    obtain ⟨hs, s1, s2, s3⟩ := ih
    obtain ⟨g, g1, g2, g3⟩ := wn_tok hm
    exact ⟨_, scn_word s1 g1 h1, by simp [s2], hs, _, [], rfl, s3, g2 _, g3 _, rfl⟩
  | after _ hm h1 h2 ih =>
    obtain ⟨hs, s1, s2, x1, g, x2, e, x3, x4, x5, x6⟩ := ih
    have : ∃ g, TokW _ g := hm.elim (fun hm => (wn_tok hm).imp fun g h => h.1) fun ⟨v, hv⟩ => (wsome_tok hv).imp fun g h => h.1
    obtain ⟨g', hg'⟩ := this
    exact ⟨_, scn_word s1 hg' h1, by simp [s2], x1, g, x2 ++ [_], by rw [e, List.append_assoc]; rfl, x3, x4, x5, x6⟩
theorem strOk_app {x y : Str} (h1 : PyData.strOk x = true) (h2 : PyData.strOk y = true) : PyData.strOk (x ++ y) = true := by
  unfold PyData.strOk at *
  rw [Str.cps_append, Array.all_append, h1, h2]; rfl
theorem join_ok {ns : List Str} (hl : ns.length ≤ 3) (h : ∀ v ∈ ns, PyData.strOk v = true) : PyData.strOk (Txt.join (Str.ofString " ") ns) = true := by
  have e : PyData.strOk (Str.ofString " ") = true := by decide +kernel
  rcases ns with _ | ⟨a, _ | ⟨b, _ | ⟨c, _ | ⟨d, r⟩⟩⟩⟩
  · decide +kernel
  · exact h a (by simp)
  · exact strOk_app (strOk_app (h a (by simp)) e) (h b (by simp))
  · exact strOk_app (strOk_app (strOk_app (strOk_app (h a (by simp)) e) (h b (by simp))) e) (h c (by simp))
  · simp at hl
theorem scan_cpl {T : Str} {ws : List PW} (h : ScanL 0 (cpl T) ws) : Scan T 0 ws := scan_all h
/-- the ending behind t -/
theorem end_scan (t : Str) {e : Str} (he : e ∈ ENDS) : ∃ ew g r, ScanL t.length (cpl e) ew ∧ ew.length ≤ 2 ∧ ew ++ [endW (t ++ e)] = g :: r ∧ isPlain g = false ∧ isSgn g (Str.ofString "(") = false ∧ g.pl = (t.length : Int) := by
  unfold ENDS at he
  simp only [List.mem_cons, List.not_mem_nil, or_false] at he
  rcases he with rfl | rfl | rfl | rfl
  · refine ⟨[], _, [], ?_, by simp, rfl, by kernel_rfl, by kernel_rfl, ?_⟩
    · rw [show cpl (Str.ofString "") = [] by decide +kernel]; exact ScanL.fin
    · show ((t ++ Str.ofString "").length : Int) = _
      rw [Str.length_append, show (Str.ofString "").length = 0 by decide +kernel]; rfl
  · refine ⟨[pwAt t.length (nmW "NOT" "NOT")], _, _, ?_, by simp, rfl, by kernel_rfl, by kernel_rfl, rfl⟩
    rw [show cpl (Str.ofString "NOT") = [78, 79, 84] by decide +kernel]
    exact ScanL.word (n := 3) (by kernel_rfl) rfl ScanL.fin
  · refine ⟨[pwAt t.length (Str.ofString "sign", Str.ofString ")", .none)], _, _, ?_, by simp, rfl, by kernel_rfl, by kernel_rfl, rfl⟩
    rw [show cpl (Str.ofString ")") = [41] by decide +kernel]
    exact ScanL.word (n := 1) (by kernel_rfl) rfl ScanL.fin
  · refine ⟨[pwAt t.length (Str.ofString "sign", Str.ofString "=", .none), pwAt (t.length + 1 + 1) (Str.ofString "number", Str.ofString "", .int 5)], _, _, ?_, by simp, rfl, by kernel_rfl, by kernel_rfl, rfl⟩
    rw [show cpl (Str.ofString "= 5") = [61, 32, 53] by decide +kernel]
    exact ScanL.word (n := 1) (by kernel_rfl) rfl (ScanL.blank (n := 1) (by kernel_rfl) rfl (ScanL.word (n := 1) (by kernel_rfl) rfl ScanL.fin))
theorem told_ok {ns : List Str} (hl : ns.length ≤ 3) (h : ∀ v ∈ ns, PyData.strOk v = true) (q : Int) : ∀ d ∈ [toldD ns, .int q], kqdOk 8 d = true := by
  intro d hd
  rcases List.mem_cons.mp hd with rfl | hd
  · unfold toldD
    split
    · rfl
    · exact join_ok hl h
  · rw [List.mem_singleton.mp hd]; rfl
/-- nothing but the names is read -/
theorem pack_end {T : Str} {ws h1 r : List PW} {g : PW} {ns : List Str} (hT : T.length ≤ 1000) (hsc : ScanL 0 (cpl T) ws) (he : ws ++ [endW T] = h1 ++ g :: r) (hl : (ws ++ [endW T]).length ≤ 1001) (hp : PP h1 ns) (hg : isPlain g = false) (hg2 : isSgn g (Str.ofString "(") = false)
    (hn : ns.length ≤ 3) (ho : ∀ v ∈ ns, PyData.strOk v = true) (hj : (Txt.join (Str.ofString " ") ns).length ≤ 1000) (hs : (ns.map (·.length)).sum + ns.length * 64 ≤ 16777216) : RdOk T [toldD ns, .int g.pl] := by
  refine ⟨hT, told_ok hn ho _, ws, ns, h1.length, (if (ns == []) = true then .nothing h1.length else .told (Txt.join (Str.ofString " ") ns) h1.length), g.pl, scan_cpl hsc, hl, ?_, ho, by omega, hs, ?_, ?_, ?_⟩
  · rw [he]; have := hp.plain hg r []; simpa using this
  · cases h : (ns == []) with
    | true => rw [if_pos rfl]; exact .none h
    | false => rw [if_neg Bool.false_ne_true]; exact .plain h (by rw [he]; exact at_pre0 h1 (g :: r)) hg2
  · intro k hk
    have hk' : k = h1.length := by
      cases h : (ns == []) with
      | true => rw [h, if_pos rfl] at hk; rcases hk with hk | ⟨t, hk⟩ <;> first | (injection hk with hk; exact hk.symm) | cases hk
      | false => rw [h, if_neg Bool.false_ne_true] at hk; rcases hk with hk | ⟨t, hk⟩ <;> first | (injection hk with _ hk; exact hk.symm) | cases hk
    subst hk'
    exact ⟨g, by rw [he]; exact at_pre0 h1 (g :: r), rfl⟩
  · cases h : (ns == []) with
    | true => rw [if_pos rfl]; unfold rdat toldD; rw [if_pos h]
    | false => rw [if_neg Bool.false_ne_true]; unfold rdat toldD; rw [if_neg (by rw [h]; exact Bool.false_ne_true)]
theorem type_end {i : Nat} {t e : Str} {ns : List Str} {b : Option Nat} (h : HeadT i t ns b) (hi : i ≤ 3) (he : e ∈ ENDS) : RdOk (t ++ e) [toldD ns, .int (match b with | none => (t.length : Int) | some k => (k : Int))] := by
  obtain ⟨j1, j2, j3, j4⟩ := head_join h hi
  obtain ⟨_, l2, _, _⟩ := head_len h
  obtain ⟨hs, s1, s2, s3⟩ := head_scan h
  obtain ⟨ew, g, r, e1, e2, e3, e4, e5, e6⟩ := end_scan t he
  have el := ends_len he
  have hsc : ScanL 0 (cpl (t ++ e)) (hs ++ ew) := by rw [cpl_app]; exact s1 _ _ e1
  have hT : (t ++ e).length ≤ 1000 := by rw [Str.length_append]; omega
  have hl : ((hs ++ ew) ++ [endW (t ++ e)]).length ≤ 1001 := by simp only [List.length_append, List.length_cons, List.length_nil]; omega
  cases b with
  | none =>
    have := pack_end (g := g) (r := r) hT hsc (by rw [List.append_assoc, e3]) hl s3 e4 e5 (by omega) j4 j2 j1
    rw [e6] at this
    exact this
  | some k =>
    obtain ⟨h1, g', h2, x1, x2, x3, x4, x5⟩ := s3
    have := pack_end (g := g') (r := h2 ++ (ew ++ [endW (t ++ e)])) hT hsc (by rw [x1]; simp) hl x2 x3 x4 (by omega) j4 j2 j1
    rw [x5] at this
    exact this
end
section
open PySem PySem.W PySem.Calls PyProof.Rows
noncomputable abbrev sgG (x : String) : Str × Str × WV := (Str.ofString "sign", Str.ofString x, .none)
noncomputable abbrev nuG (i : Int) : Str × Str × WV := (Str.ofString "number", Str.ofString "", .int i)
theorem tk_open (l : List Nat) : tk (40 :: l) = some (some (sgG "("), 1) := by cases l <;> kernel_rfl
theorem tk_close (l : List Nat) : tk (41 :: l) = some (some (sgG ")"), 1) := by cases l <;> kernel_rfl
theorem tk_comma (l : List Nat) : tk (44 :: l) = some (some (sgG ","), 1) := by cases l <;> kernel_rfl
theorem sl_one {c : Nat} {g : Str × Str × WV} {l : List Nat} {p : Nat} {ws : List PW} (h : tk (c :: l) = some (some g, 1)) (hs : ScanL (p + 1) l ws) : ScanL p (c :: l) (pwAt p g :: ws) := ScanL.word (n := 1) h rfl hs
noncomputable def mapW (p : Nat) (nw : List (Nat × Str × Str × WV)) : List PW := nw.map fun q => pwAt (p + q.1) q.2
/-- the number's words nw, when one of ), comma, blank follows -/
noncomputable def NumS (W : Str) (nw : List (Nat × Str × Str × WV)) : Prop := nw.length ≤ 3 ∧ ∀ (c : Nat) (l : List Nat) (p : Nat) (ws : List PW), (c = 41 ∨ c = 44 ∨ c = 32) → ScanL (p + W.length) (c :: l) ws → ScanL p (cpl W ++ c :: l) (mapW p nw ++ ws)
theorem ns_one {W : Str} {L : List Nat} {g : Str × Str × WV} (h : cpl W = L) (h1 : ∀ r, tk (L ++ 41 :: r) = some (some g, L.length)) (h2 : ∀ r, tk (L ++ 44 :: r) = some (some g, L.length)) (h3 : ∀ r, tk (L ++ 32 :: r) = some (some g, L.length)) : NumS W [(0, g)] := by
  refine ⟨by simp, fun c l p ws hc hs => ?_⟩
  subst h
  refine ScanL.word (n := (cpl W).length) (l' := c :: l) ?_ (by rw [List.drop_left]) (by rw [cpl_len]; exact hs)
  rcases hc with rfl | rfl | rfl
  · exact h1 l
  · exact h2 l
  · exact h3 l
theorem ns_sgn {W W' : Str} {a : Nat} {g : Str × Str × WV} {nw : List (Nat × Str × Str × WV)} (h : cpl W = a :: cpl W') (ha : ∀ r, tk (a :: (cpl W' ++ r)) = some (some g, 1)) (hn : NumS W' nw) (hl : nw.length ≤ 2) : NumS W ((0, g) :: nw.map fun q => (q.1 + 1, q.2)) := by
  refine ⟨by simp; omega, fun c l p ws hc hs => ?_⟩
  have hW : W.length = W'.length + 1 := by rw [← cpl_len, ← cpl_len, h]; rfl
  rw [h]
  refine ScanL.word (n := 1) (l' := cpl W' ++ c :: l) (ha _) rfl ?_
  have := hn.2 c l (p + 1) ws hc (by rw [show p + 1 + W'.length = p + W.length by omega]; exact hs)
  have e : mapW p (nw.map fun q => (q.1 + 1, q.2)) = mapW (p + 1) nw := by
    unfold mapW; rw [List.map_map]; refine List.map_congr_left fun q _ => ?_
    show pwAt (p + (q.1 + 1)) q.2 = pwAt (p + 1 + q.1) q.2
    rw [show p + (q.1 + 1) = p + 1 + q.1 by omega]
  show ScanL (p + 1) _ (mapW p (nw.map fun q => (q.1 + 1, q.2)) ++ ws)
  rw [e]
  exact this
theorem ns_bl {W W' : Str} {nw : List (Nat × Str × Str × WV)} (h : cpl W = 32 :: cpl W') (hn : NumS W' nw) : NumS W (nw.map fun q => (q.1 + 1, q.2)) := by
  refine ⟨by rw [List.length_map]; exact hn.1, fun c l p ws hc hs => ?_⟩
  have hW : W.length = W'.length + 1 := by rw [← cpl_len, ← cpl_len, h]; rfl
  rw [h]
  refine ScanL.blank (n := 1) (l' := cpl W' ++ c :: l) (by kernel_rfl) rfl ?_
  have := hn.2 c l (p + 1) ws hc (by rw [show p + 1 + W'.length = p + W.length by omega]; exact hs)
  have e : mapW p (nw.map fun q => (q.1 + 1, q.2)) = mapW (p + 1) nw := by
    unfold mapW; rw [List.map_map]; refine List.map_congr_left fun q _ => ?_
    show pwAt (p + (q.1 + 1)) q.2 = pwAt (p + 1 + q.1) q.2
    rw [show p + (q.1 + 1) = p + 1 + q.1 by omega]
  rw [e]
  exact this
theorem c_10 : NumS (Str.ofString "10") [(0, nuG 10)] := ns_one (L := [49, 48]) (by decide +kernel) (fun _ => by kernel_rfl) (fun _ => by kernel_rfl) (fun _ => by kernel_rfl)
theorem c_2 : NumS (Str.ofString "2") [(0, nuG 2)] := ns_one (L := [50]) (by decide +kernel) (fun _ => by kernel_rfl) (fun _ => by kernel_rfl) (fun _ => by kernel_rfl)
theorem c_3 : NumS (Str.ofString "3") [(0, nuG 3)] := ns_one (L := [51]) (by decide +kernel) (fun _ => by kernel_rfl) (fun _ => by kernel_rfl) (fun _ => by kernel_rfl)
theorem c_1 : NumS (Str.ofString "1") [(0, nuG 1)] := ns_one (L := [49]) (by decide +kernel) (fun _ => by kernel_rfl) (fun _ => by kernel_rfl) (fun _ => by kernel_rfl)
theorem c_007 : NumS (Str.ofString "007") [(0, nuG 7)] := ns_one (L := [48, 48, 55]) (by decide +kernel) (fun _ => by kernel_rfl) (fun _ => by kernel_rfl) (fun _ => by kernel_rfl)
theorem c_1F : NumS (Str.ofString "0x1F") [(0, nuG 31)] := ns_one (L := [48, 120, 49, 70]) (by decide +kernel) (fun _ => by kernel_rfl) (fun _ => by kernel_rfl) (fun _ => by kernel_rfl)
theorem c_x : NumS (Str.ofString "x") [(0, nmW "X" "x")] := ns_one (L := [120]) (by decide +kernel) (fun _ => by kernel_rfl) (fun _ => by kernel_rfl) (fun _ => by kernel_rfl)
theorem c_m2 : NumS (Str.ofString "-2") [(0, sgG "-"), (1, nuG 2)] := ns_sgn (W' := Str.ofString "2") (a := 45) (by decide +kernel) (fun r => by rw [show cpl (Str.ofString "2") = [50] by decide +kernel]; kernel_rfl) c_2 (by decide)
theorem c_mx : NumS (Str.ofString "-x") [(0, sgG "-"), (1, nmW "X" "x")] := ns_sgn (W' := Str.ofString "x") (a := 45) (by decide +kernel) (fun r => by rw [show cpl (Str.ofString "x") = [120] by decide +kernel]; kernel_rfl) c_x (by decide)
theorem c_b3 : NumS (Str.ofString " 3") [(1, nuG 3)] := ns_bl (W' := Str.ofString "3") (by decide +kernel) c_3
theorem c_b7 : NumS (Str.ofString " 007") [(1, nuG 7)] := ns_bl (W' := Str.ofString "007") (by decide +kernel) c_007
theorem c_p3 : NumS (Str.ofString "+ 3") [(0, sgG "+"), (2, nuG 3)] := ns_sgn (W' := Str.ofString " 3") (a := 43) (by decide +kernel) (fun r => by rw [show cpl (Str.ofString " 3") = [32, 51] by decide +kernel]; kernel_rfl) c_b3 (by decide)
theorem c_m7 : NumS (Str.ofString "- 007") [(0, sgG "-"), (2, nuG 7)] := ns_sgn (W' := Str.ofString " 007") (a := 45) (by decide +kernel) (fun r => by rw [show cpl (Str.ofString " 007") = [32, 48, 48, 55] by decide +kernel]; kernel_rfl) c_b7 (by decide)
theorem c_m1 : NumS (Str.ofString "-1") [(0, sgG "-"), (1, nuG 1)] := ns_sgn (W' := Str.ofString "1") (a := 45) (by decide +kernel) (fun r => by rw [show cpl (Str.ofString "1") = [49] by decide +kernel]; kernel_rfl) c_1 (by decide)
theorem c_pm1 : NumS (Str.ofString "+-1") [(0, sgG "+"), (1, sgG "-"), (2, nuG 1)] := ns_sgn (W' := Str.ofString "-1") (a := 43) (by decide +kernel) (fun r => by rw [show cpl (Str.ofString "-1") = [45, 49] by decide +kernel]; kernel_rfl) c_m1 (by decide)
theorem c_nil : NumS (Str.ofString "") [] := ⟨by decide, fun c l p ws hc hs => by
  rw [show cpl (Str.ofString "") = [] by decide +kernel]
  rw [show (Str.ofString "").length = 0 by decide +kernel] at hs
  exact hs⟩
theorem size0 {pre r : List PW} {f : PW} {i : Int} (hk : f.kind = Str.ofString "number") (hv : f.val = .int i) (h0 : 0 ≤ i) (h1 : i ≤ 9223372036854775808) (hm : isSgn f (Str.ofString "-") = false) (hp : isSgn f (Str.ofString "+") = false) :
    SizeT (pre ++ f :: r) pre.length (Str.ofString "" ++ Str.ofString (toString i)) (pre.length + 1) := by
  have hw : (pre ++ f :: r)[pre.length]? = some f := at_pre0 pre (f :: r)
  have hs : sizeAt (pre ++ f :: r) pre.length = (pre.length, Str.ofString "") := by unfold sizeAt; rw [hw]; simp [hm, hp]
  exact ⟨f, f, i, hw, by rw [hs]; exact hw, hk, hv, h0, h1, by rw [hs], by rw [hs]⟩
theorem size1 {pre r : List PW} {g f : PW} {i : Int} {sg : Str} (hk : f.kind = Str.ofString "number") (hv : f.val = .int i) (h0 : 0 ≤ i) (h1 : i ≤ 9223372036854775808) (hm : (isSgn g (Str.ofString "-") = true ∧ sg = Str.ofString "-") ∨ (isSgn g (Str.ofString "-") = false ∧ isSgn g (Str.ofString "+") = true ∧ sg = Str.ofString "")) :
    SizeT (pre ++ g :: f :: r) pre.length (sg ++ Str.ofString (toString i)) (pre.length + 2) := by
  have hw : (pre ++ g :: f :: r)[pre.length]? = some g := at_pre0 pre (g :: f :: r)
  have hw2 : (pre ++ g :: f :: r)[pre.length + 1]? = some f := at_pre pre (g :: f :: r) 1
  have hs : sizeAt (pre ++ g :: f :: r) pre.length = (pre.length + 1, sg) := by
    unfold sizeAt; rw [hw]
    rcases hm with ⟨hm, rfl⟩ | ⟨hm, hp, rfl⟩
    · simp [hm]
    · simp [hm, hp]
  exact ⟨g, f, i, hw, by rw [hs]; exact hw2, hk, hv, h0, h1, by rw [hs], by rw [hs]⟩
theorem nosize0 {pre r : List PW} {f : PW} (hk : f.kind ≠ Str.ofString "number") (hm : isSgn f (Str.ofString "-") = false) (hp : isSgn f (Str.ofString "+") = false) : NoSize (pre ++ f :: r) pre.length f.pl := by
  have hw : (pre ++ f :: r)[pre.length]? = some f := at_pre0 pre (f :: r)
  have hs : sizeAt (pre ++ f :: r) pre.length = (pre.length, Str.ofString "") := by unfold sizeAt; rw [hw]; simp [hm, hp]
  exact ⟨f, f, hw, by rw [hs]; exact hw, hk, rfl⟩
theorem nosize1 {pre r : List PW} {g f : PW} (hk : f.kind ≠ Str.ofString "number") (hm : isSgn g (Str.ofString "-") = true ∨ (isSgn g (Str.ofString "-") = false ∧ isSgn g (Str.ofString "+") = true)) : NoSize (pre ++ g :: f :: r) pre.length f.pl := by
  have hw : (pre ++ g :: f :: r)[pre.length]? = some g := at_pre0 pre (g :: f :: r)
  have hw2 : (pre ++ g :: f :: r)[pre.length + 1]? = some f := at_pre pre (g :: f :: r) 1
  have hs : (sizeAt (pre ++ g :: f :: r) pre.length).1 = pre.length + 1 := by
    unfold sizeAt; rw [hw]
    rcases hm with hm | ⟨hm, hp⟩
    · simp [hm]
    · simp [hm, hp]
  exact ⟨g, f, hw, by rw [hs]; exact hw2, hk, rfl⟩
theorem ne_num {x : Str} (h : (x == Str.ofString "number") = false) : x ≠ Str.ofString "number" := by simpa using h
theorem nsome_ok {W v : Str} (h : (W, v) ∈ NSOME) : ∃ nw, NumS W nw ∧ ∀ (pre r : List PW) (p : Nat), SizeT (pre ++ (mapW p nw ++ r)) pre.length v (pre.length + nw.length) := by
  unfold NSOME at h
  simp only [List.mem_cons, List.not_mem_nil, or_false, Prod.mk.injEq] at h
  rcases h with ⟨rfl, rfl⟩ | ⟨rfl, rfl⟩ | ⟨rfl, rfl⟩ | ⟨rfl, rfl⟩ | ⟨rfl, rfl⟩
  · refine ⟨_, c_10, fun pre r p => ?_⟩
    rw [show Str.ofString "10" = Str.ofString "" ++ Str.ofString (toString (10 : Int)) by decide +kernel]
    exact size0 rfl rfl (by decide) (by decide) (by kernel_rfl) (by kernel_rfl)
  · refine ⟨_, c_m2, fun pre r p => ?_⟩
    rw [show Str.ofString "-2" = Str.ofString "-" ++ Str.ofString (toString (2 : Int)) by decide +kernel]
    exact size1 rfl rfl (by decide) (by decide) (.inl ⟨by kernel_rfl, rfl⟩)
  · refine ⟨_, c_p3, fun pre r p => ?_⟩
    rw [show Str.ofString "3" = Str.ofString "" ++ Str.ofString (toString (3 : Int)) by decide +kernel]
    exact size1 rfl rfl (by decide) (by decide) (.inr ⟨by kernel_rfl, by kernel_rfl, rfl⟩)
  · refine ⟨_, c_m7, fun pre r p => ?_⟩
    rw [show Str.ofString "-7" = Str.ofString "-" ++ Str.ofString (toString (7 : Int)) by decide +kernel]
    exact size1 rfl rfl (by decide) (by decide) (.inl ⟨by kernel_rfl, rfl⟩)
  · refine ⟨_, c_1F, fun pre r p => ?_⟩
    rw [show Str.ofString "31" = Str.ofString "" ++ Str.ofString (toString (31 : Int)) by decide +kernel]
    exact size0 rfl rfl (by decide) (by decide) (by kernel_rfl) (by kernel_rfl)
/-- no number: what follows is a sign ) or a comma, at the place behind W -/
theorem nnone_ok {W : Str} {k : Int} (h : (W, k) ∈ NNONE) : ∃ nw, NumS W nw ∧ ∀ (pre r : List PW) (p : Nat) (x : String), (x = ")" ∨ x = ",") → NoSize (pre ++ (mapW p nw ++ pwAt (p + W.length) (sgG x) :: r)) pre.length ((p : Int) + k) := by
  unfold NNONE at h
  simp only [List.mem_cons, List.not_mem_nil, or_false, Prod.mk.injEq] at h
  rcases h with ⟨rfl, rfl⟩ | ⟨rfl, rfl⟩ | ⟨rfl, rfl⟩ | ⟨rfl, rfl⟩
  · refine ⟨_, c_x, fun pre r p x _ => ?_⟩
    rw [Int.add_zero]
    exact nosize0 (f := pwAt (p + 0) (nmW "X" "x")) (ne_num (by kernel_rfl)) (by kernel_rfl) (by kernel_rfl)
  · refine ⟨_, c_mx, fun pre r p x _ => ?_⟩
    exact nosize1 (f := pwAt (p + 1) (nmW "X" "x")) (ne_num (by kernel_rfl)) (.inl (by kernel_rfl))
  · refine ⟨_, c_nil, fun pre r p x hx => ?_⟩
    rw [Int.add_zero]
    have e : ((p + (Str.ofString "").length : Nat) : Int) = (p : Int) := by rw [show (Str.ofString "").length = 0 by decide +kernel]; rfl
    rw [← e]
    rcases hx with rfl | rfl
    · exact nosize0 (f := pwAt (p + (Str.ofString "").length) (sgG ")")) (ne_num (by kernel_rfl)) (by kernel_rfl) (by kernel_rfl)
    · exact nosize0 (f := pwAt (p + (Str.ofString "").length) (sgG ",")) (ne_num (by kernel_rfl)) (by kernel_rfl) (by kernel_rfl)
  · refine ⟨_, c_pm1, fun pre r p x _ => ?_⟩
    exact nosize1 (f := pwAt (p + 1) (sgG "-")) (ne_num (by kernel_rfl)) (.inr ⟨by kernel_rfl, by kernel_rfl⟩)
end
section
open PySem PySem.W PySem.Calls PyProof.Rows
theorem str_assoc (a b c : Str) : a ++ b ++ c = a ++ (b ++ c) := Str.ext' (by simp only [Str.cps_append, Array.append_assoc])
theorem c_op : cpl (Str.ofString "(") = [40] := by decide +kernel
theorem c_cl : cpl (Str.ofString ")") = [41] := by decide +kernel
theorem c_cm : cpl (Str.ofString ",") = [44] := by decide +kernel
theorem c_y : cpl (Str.ofString " y)") = [32, 121, 41] := by decide +kernel
noncomputable def BrOut (p : Nat) (bw : List PW) (o : Str ⊕ (Str × Int)) : Prop :=
  ∀ (pre r : List PW) (ns : List Str), (ns == []) = false → TypeT (pre ++ (pwAt p (sgG "(") :: bw ++ r)) ns pre.length (match o with | .inl d => .told (Txt.join (Str.ofString " ") ns ++ d) (pre.length + 1 + bw.length) | .inr (msg, pl) => .err msg pl)
theorem op_at (pre : List PW) (p : Nat) (l : List PW) : (pre ++ (pwAt p (sgG "(") :: l))[pre.length]? = some (pwAt p (sgG "(")) := at_pre0 pre _
theorem nsome_z {W v : Str} (h : (W, v) ∈ NSOME) : v.length ≤ 100 := by have := nsome_len h; omega
theorem split1 (pre : List PW) (a : PW) (l : List PW) : pre ++ (a :: l) = (pre ++ [a]) ++ l := by simp
theorem br_scan {p : Nat} {br : Str} {o : Str ⊕ (Str × Int)} (h : BrT (p : Int) br o) : ∃ bw, bw.length ≤ 20 ∧ (∀ l ws, ScanL (p + br.length) l ws → ScanL p (cpl br ++ l) (pwAt p (sgG "(") :: bw ++ ws)) ∧ BrOut p bw o := by
  have e1 := one_len
  cases h with
  | @one W v hW =>
    obtain ⟨nw, n1, n2⟩ := nsome_ok hW
    refine ⟨mapW (p + 1) nw ++ [pwAt (p + 1 + W.length) (sgG ")")], ?_, ?_, ?_⟩
    · have := n1.1; simp [mapW]; omega
    · intro l ws hl
      rw [cpl_app, cpl_app, c_op, c_cl]
      have : ScanL (p + 1) (cpl W ++ 41 :: l) (mapW (p + 1) nw ++ (pwAt (p + 1 + W.length) (sgG ")") :: ws)) := n1.2 41 l (p + 1) _ (.inl rfl) (sl_one (tk_close l) (by
        rw [Str.length_append, Str.length_append] at hl
        rw [show p + 1 + W.length + 1 = p + ((Str.ofString "(").length + W.length + (Str.ofString ")").length) by omega]; exact hl))
      have := sl_one (tk_open (cpl W ++ 41 :: l)) this
      simpa using this
    · intro pre r ns hn
      dsimp only
      have hs := n2 (pre ++ [pwAt p (sgG "(")]) (pwAt (p + 1 + W.length) (sgG ")") :: r) (p + 1)
      have hc : ((pre ++ [pwAt p (sgG "(")]) ++ (mapW (p + 1) nw ++ pwAt (p + 1 + W.length) (sgG ")") :: r))[pre.length + 1 + nw.length]? = some (pwAt (p + 1 + W.length) (sgG ")")) := by
        have := at_pre0 ((pre ++ [pwAt p (sgG "(")]) ++ mapW (p + 1) nw) (pwAt (p + 1 + W.length) (sgG ")") :: r)
        rw [List.append_assoc] at this
        refine Eq.trans ?_ this
        congr 1
        simp [mapW]; omega
      rw [List.length_append, List.length_singleton] at hs
      have := TypeT.one hn (op_at pre p _) (by kernel_rfl) (by rw [split1 pre]; exact hs) (nsome_z hW) (by rw [split1 pre]; exact hc) (by kernel_rfl) (by kernel_rfl)
      rw [show pre.length + 1 + (mapW (p + 1) nw ++ [pwAt (p + 1 + W.length) (sgG ")")]).length = pre.length + 1 + nw.length + 1 by simp [mapW]; omega]
      rw [str_assoc, str_assoc, ← str_assoc (Str.ofString "(")] at this
      simpa using this
  | @noClose W v pl hW hpl =>
    obtain ⟨nw, n1, n2⟩ := nsome_ok hW
    refine ⟨mapW (p + 1) nw ++ [pwAt (p + 1 + W.length + 1) (nmW "Y" "y"), pwAt (p + 1 + W.length + 1 + 1) (sgG ")")], ?_, ?_, ?_⟩
    · have := n1.1; simp [mapW]; omega
    · intro l ws hl
      rw [cpl_app, cpl_app, c_op, c_y]
      have : ScanL (p + 1) (cpl W ++ 32 :: 121 :: 41 :: l) (mapW (p + 1) nw ++ (pwAt (p + 1 + W.length + 1) (nmW "Y" "y") :: pwAt (p + 1 + W.length + 1 + 1) (sgG ")") :: ws)) := n1.2 32 _ (p + 1) _ (.inr (.inr rfl)) (ScanL.blank (n := 1) (by kernel_rfl) rfl (ScanL.word (n := 1) (by kernel_rfl) rfl (sl_one (tk_close l) (by
        rw [Str.length_append, Str.length_append] at hl
        rw [show p + 1 + W.length + 1 + 1 + 1 = p + ((Str.ofString "(").length + W.length + (Str.ofString " y)").length) by omega]; exact hl))))
      have := sl_one (tk_open (cpl W ++ 32 :: 121 :: 41 :: l)) this
      simpa using this
    · intro pre r ns hn
      dsimp only
      have hs := n2 (pre ++ [pwAt p (sgG "(")]) (pwAt (p + 1 + W.length + 1) (nmW "Y" "y") :: pwAt (p + 1 + W.length + 1 + 1) (sgG ")") :: r) (p + 1)
      have hc : ((pre ++ [pwAt p (sgG "(")]) ++ (mapW (p + 1) nw ++ pwAt (p + 1 + W.length + 1) (nmW "Y" "y") :: pwAt (p + 1 + W.length + 1 + 1) (sgG ")") :: r))[pre.length + 1 + nw.length]? = some (pwAt (p + 1 + W.length + 1) (nmW "Y" "y")) := by
        have := at_pre0 ((pre ++ [pwAt p (sgG "(")]) ++ mapW (p + 1) nw) (pwAt (p + 1 + W.length + 1) (nmW "Y" "y") :: pwAt (p + 1 + W.length + 1 + 1) (sgG ")") :: r)
        rw [List.append_assoc] at this
        refine Eq.trans ?_ this
        congr 1
        simp [mapW]; omega
      rw [List.length_append, List.length_singleton] at hs
      have := TypeT.noClose hn (op_at pre p _) (by kernel_rfl) (by rw [split1 pre]; exact hs) (nsome_z hW) (by rw [split1 pre]; exact hc) (by kernel_rfl) (by kernel_rfl)
      have e2 : Str.ofString ")" ++ Str.ofString " is missing" = Str.ofString ") is missing" := by decide +kernel
      have e3 : ((p + 1 + W.length + 1 : Nat) : Int) = pl := by rw [hpl]; push_cast; omega
      simp only [ot, e2] at this
      rw [e3] at this
      simpa using this
  | @bad1 W k pl hW hpl =>
    obtain ⟨nw, n1, n2⟩ := nnone_ok hW
    refine ⟨mapW (p + 1) nw ++ [pwAt (p + 1 + W.length) (sgG ")")], ?_, ?_, ?_⟩
    · have := n1.1; simp [mapW]; omega
    · intro l ws hl
      rw [cpl_app, cpl_app, c_op, c_cl]
      have : ScanL (p + 1) (cpl W ++ 41 :: l) (mapW (p + 1) nw ++ (pwAt (p + 1 + W.length) (sgG ")") :: ws)) := n1.2 41 l (p + 1) _ (.inl rfl) (sl_one (tk_close l) (by
        rw [Str.length_append, Str.length_append] at hl
        rw [show p + 1 + W.length + 1 = p + ((Str.ofString "(").length + W.length + (Str.ofString ")").length) by omega]; exact hl))
      have := sl_one (tk_open (cpl W ++ 41 :: l)) this
      simpa using this
    · intro pre r ns hn
      dsimp only
      have hs := n2 (pre ++ [pwAt p (sgG "(")]) r (p + 1) ")" (.inl rfl)
      rw [List.length_append, List.length_singleton] at hs
      have := TypeT.noNum hn (op_at pre p _) (by kernel_rfl) (by rw [split1 pre]; exact hs)
      have e3 : (((p + 1 : Nat) : Int) + k) = pl := by rw [hpl]; push_cast; omega
      rw [e3] at this
      simpa using this
  | @bad2 W v U k pl hW hU hpl =>
    obtain ⟨nw, n1, n2⟩ := nsome_ok hW
    obtain ⟨mw, m1, m2⟩ := nnone_ok hU
    refine ⟨mapW (p + 1) nw ++ (pwAt (p + 1 + W.length) (sgG ",") :: (mapW (p + 1 + W.length + 1) mw ++ [pwAt (p + 1 + W.length + 1 + U.length) (sgG ")")])), ?_, ?_, ?_⟩
    · have := n1.1; have := m1.1; simp [mapW]; omega
    · intro l ws hl
      rw [cpl_app, cpl_app, cpl_app, cpl_app, c_op, c_cl, c_cm]
      have h2 : ScanL (p + 1 + W.length + 1) (cpl U ++ 41 :: l) (mapW (p + 1 + W.length + 1) mw ++ (pwAt (p + 1 + W.length + 1 + U.length) (sgG ")") :: ws)) := m1.2 41 l _ _ (.inl rfl) (sl_one (tk_close l) (by
        simp only [Str.length_append] at hl
        rw [show p + 1 + W.length + 1 + U.length + 1 = p + ((Str.ofString "(").length + W.length + (Str.ofString ",").length + U.length + (Str.ofString ")").length) by omega]; exact hl))
      have h1 : ScanL (p + 1) (cpl W ++ 44 :: (cpl U ++ 41 :: l)) _ := n1.2 44 _ (p + 1) _ (.inr (.inl rfl)) (sl_one (tk_comma _) h2)
      have := sl_one (tk_open _) h1
      simpa using this
    · intro pre r ns hn
      dsimp only
      have hs := n2 (pre ++ [pwAt p (sgG "(")]) (pwAt (p + 1 + W.length) (sgG ",") :: (mapW (p + 1 + W.length + 1) mw ++ pwAt (p + 1 + W.length + 1 + U.length) (sgG ")") :: r)) (p + 1)
      have hc : ((pre ++ [pwAt p (sgG "(")]) ++ (mapW (p + 1) nw ++ (pwAt (p + 1 + W.length) (sgG ",") :: (mapW (p + 1 + W.length + 1) mw ++ pwAt (p + 1 + W.length + 1 + U.length) (sgG ")") :: r))))[pre.length + 1 + nw.length]? = some (pwAt (p + 1 + W.length) (sgG ",")) := by
        have := at_pre0 ((pre ++ [pwAt p (sgG "(")]) ++ mapW (p + 1) nw) (pwAt (p + 1 + W.length) (sgG ",") :: (mapW (p + 1 + W.length + 1) mw ++ pwAt (p + 1 + W.length + 1 + U.length) (sgG ")") :: r))
        rw [List.append_assoc] at this
        refine Eq.trans ?_ this
        congr 1
        simp [mapW]; omega
      have hm := m2 ((pre ++ [pwAt p (sgG "(")]) ++ (mapW (p + 1) nw ++ [pwAt (p + 1 + W.length) (sgG ",")])) r (p + 1 + W.length + 1) ")" (.inl rfl)
      rw [show ((pre ++ [pwAt p (sgG "(")]) ++ (mapW (p + 1) nw ++ [pwAt (p + 1 + W.length) (sgG ",")])).length = pre.length + 1 + nw.length + 1 by simp [mapW]; omega] at hm
      rw [List.length_append, List.length_singleton] at hs
      have := TypeT.noNum2 hn (op_at pre p _) (by kernel_rfl) (by rw [split1 pre]; exact hs) (nsome_z hW) (by rw [split1 pre]; exact hc) (by kernel_rfl) (by simpa using hm)
      have e3 : ((p : Int) + 1 + (W.length : Int) + 1 + k) = pl := by rw [hpl]; omega
      rw [e3] at this
      simpa using this
  | @two W v U u hW hU =>
    obtain ⟨nw, n1, n2⟩ := nsome_ok hW
    obtain ⟨mw, m1, m2⟩ := nsome_ok hU
    refine ⟨mapW (p + 1) nw ++ (pwAt (p + 1 + W.length) (sgG ",") :: (mapW (p + 1 + W.length + 1) mw ++ [pwAt (p + 1 + W.length + 1 + U.length) (sgG ")")])), ?_, ?_, ?_⟩
    · have := n1.1; have := m1.1; simp [mapW]; omega
    · intro l ws hl
      rw [cpl_app, cpl_app, cpl_app, cpl_app, c_op, c_cl, c_cm]
      have h2 : ScanL (p + 1 + W.length + 1) (cpl U ++ 41 :: l) (mapW (p + 1 + W.length + 1) mw ++ (pwAt (p + 1 + W.length + 1 + U.length) (sgG ")") :: ws)) := m1.2 41 l _ _ (.inl rfl) (sl_one (tk_close l) (by
        simp only [Str.length_append] at hl
        rw [show p + 1 + W.length + 1 + U.length + 1 = p + ((Str.ofString "(").length + W.length + (Str.ofString ",").length + U.length + (Str.ofString ")").length) by omega]; exact hl))
      have h1 : ScanL (p + 1) (cpl W ++ 44 :: (cpl U ++ 41 :: l)) _ := n1.2 44 _ (p + 1) _ (.inr (.inl rfl)) (sl_one (tk_comma _) h2)
      have := sl_one (tk_open _) h1
      simpa using this
    · intro pre r ns hn
      dsimp only
      have hs := n2 (pre ++ [pwAt p (sgG "(")]) (pwAt (p + 1 + W.length) (sgG ",") :: (mapW (p + 1 + W.length + 1) mw ++ pwAt (p + 1 + W.length + 1 + U.length) (sgG ")") :: r)) (p + 1)
      have hc : ((pre ++ [pwAt p (sgG "(")]) ++ (mapW (p + 1) nw ++ (pwAt (p + 1 + W.length) (sgG ",") :: (mapW (p + 1 + W.length + 1) mw ++ pwAt (p + 1 + W.length + 1 + U.length) (sgG ")") :: r))))[pre.length + 1 + nw.length]? = some (pwAt (p + 1 + W.length) (sgG ",")) := by
        have := at_pre0 ((pre ++ [pwAt p (sgG "(")]) ++ mapW (p + 1) nw) (pwAt (p + 1 + W.length) (sgG ",") :: (mapW (p + 1 + W.length + 1) mw ++ pwAt (p + 1 + W.length + 1 + U.length) (sgG ")") :: r))
        rw [List.append_assoc] at this
        refine Eq.trans ?_ this
        congr 1
        simp [mapW]; omega
      have hm := m2 ((pre ++ [pwAt p (sgG "(")]) ++ (mapW (p + 1) nw ++ [pwAt (p + 1 + W.length) (sgG ",")])) (pwAt (p + 1 + W.length + 1 + U.length) (sgG ")") :: r) (p + 1 + W.length + 1)
      have hd : (((pre ++ [pwAt p (sgG "(")]) ++ (mapW (p + 1) nw ++ [pwAt (p + 1 + W.length) (sgG ",")])) ++ (mapW (p + 1 + W.length + 1) mw ++ (pwAt (p + 1 + W.length + 1 + U.length) (sgG ")") :: r)))[pre.length + 1 + nw.length + 1 + mw.length]? = some (pwAt (p + 1 + W.length + 1 + U.length) (sgG ")")) := by
        have := at_pre0 (((pre ++ [pwAt p (sgG "(")]) ++ (mapW (p + 1) nw ++ [pwAt (p + 1 + W.length) (sgG ",")])) ++ mapW (p + 1 + W.length + 1) mw) (pwAt (p + 1 + W.length + 1 + U.length) (sgG ")") :: r)
        rw [List.append_assoc] at this
        refine Eq.trans ?_ this
        congr 1
        simp [mapW]; omega
      rw [show ((pre ++ [pwAt p (sgG "(")]) ++ (mapW (p + 1) nw ++ [pwAt (p + 1 + W.length) (sgG ",")])).length = pre.length + 1 + nw.length + 1 by simp [mapW]; omega] at hm
      rw [List.length_append, List.length_singleton] at hs
      have := TypeT.two hn (op_at pre p _) (by kernel_rfl) (by rw [split1 pre]; exact hs) (nsome_z hW) (by rw [split1 pre]; exact hc) (by kernel_rfl) (by simpa using hm) (nsome_z hU) (by simpa using hd) (by kernel_rfl)
      rw [show pre.length + 1 + (mapW (p + 1) nw ++ (pwAt (p + 1 + W.length) (sgG ",") :: (mapW (p + 1 + W.length + 1) mw ++ [pwAt (p + 1 + W.length + 1 + U.length) (sgG ")")]))).length = pre.length + 1 + nw.length + 1 + mw.length + 1 by simp [mapW]; omega]
      simp only [str_assoc] at this ⊢
      simpa using this
end
section
open PySem PySem.W PySem.Calls PyProof.Rows
theorem msg_ok {at' : Int} {br msg : Str} {pl : Int} (h : BrT at' br (.inr (msg, pl))) : PyData.strOk msg = true := by
  generalize ho : (Sum.inr (msg, pl) : Str ⊕ (Str × Int)) = o at h
  cases h with
  | bad1 _ _ => injection ho with ho; injection ho with ho _; rw [ho]; decide +kernel
  | one _ => cases ho
  | noClose _ _ => injection ho with ho; injection ho with ho _; rw [ho]; decide +kernel
  | bad2 _ _ _ => injection ho with ho; injection ho with ho _; rw [ho]; decide +kernel
  | two _ _ => cases ho
theorem inl_ok {at' : Int} {br d : Str} (h : BrT at' br (.inl d)) : PyData.strOk d = true := by
  have hn : ∀ q ∈ NSOME, PyData.strOk q.2 = true := by decide +kernel
  have e1 : PyData.strOk (Str.ofString "(") = true := by decide +kernel
  have e2 : PyData.strOk (Str.ofString ")") = true := by decide +kernel
  have e3 : PyData.strOk (Str.ofString ",") = true := by decide +kernel
  generalize ho : (Sum.inl d : Str ⊕ (Str × Int)) = o at h
  cases h with
  | bad1 _ _ => cases ho
  | one h => injection ho with ho; rw [ho]; exact strOk_app (strOk_app e1 (hn _ h)) e2
  | noClose _ _ => cases ho
  | bad2 _ _ _ => cases ho
  | two h h' => injection ho with ho; rw [ho]; exact strOk_app (strOk_app (strOk_app (strOk_app e1 (hn _ h)) e3) (hn _ h')) e2
theorem brk_base {i : Nat} {t e br : Str} {ns : List Str} {o : Str ⊕ (Str × Int)} (h : HeadT i t ns none) (hi : i ≤ 3) (hb : BrT (t.length : Int) br o) (he : e ∈ ENDS) :
    ∃ hs bw ew g r, PP hs ns ∧ ScanL 0 (cpl (t ++ br ++ e)) (hs ++ (pwAt t.length (sgG "(") :: bw ++ ew)) ∧ (t ++ br ++ e).length ≤ 1000 ∧ ((hs ++ (pwAt t.length (sgG "(") :: bw ++ ew)) ++ [endW (t ++ br ++ e)]).length ≤ 1001 ∧
      BrOut t.length bw o ∧ (hs ++ (pwAt t.length (sgG "(") :: bw ++ ew)) ++ [endW (t ++ br ++ e)] = hs ++ (pwAt t.length (sgG "(") :: bw ++ (g :: r)) ∧ g.pl = ((t.length : Int) + (br.length : Int)) := by
  obtain ⟨j1, j2, j3, j4⟩ := head_join h hi
  obtain ⟨hs, s1, s2, s3⟩ := head_scan h
  obtain ⟨bw, b1, b2, b3⟩ := br_scan hb
  obtain ⟨ew, g, r, e1, e2, e3, e4, e5, e6⟩ := end_scan (t ++ br) he
  have el := ends_len he
  have bl := (br_len hb).1
  refine ⟨hs, bw, ew, g, r, s3, ?_, ?_, ?_, b3, ?_, ?_⟩
  · rw [str_assoc, cpl_app, cpl_app]
    exact s1 _ _ (b2 _ _ (by rw [← Str.length_append]; exact e1))
  · simp only [Str.length_append]; omega
  · simp only [List.length_append, List.length_cons, List.length_nil]; omega
  · rw [← e3]; simp
  · rw [e6, Str.length_append]; push_cast; rfl
theorem type_brk0 {i : Nat} {t e br : Str} {ns : List Str} {o : Str ⊕ (Str × Int)} (h : HeadT i t ns none) (hi : i ≤ 3) (hn : (ns == []) = true) (hb : BrT (t.length : Int) br o) (he : e ∈ ENDS) : RdOk (t ++ br ++ e) [.none, .int (t.length : Int)] := by
  obtain ⟨j1, j2, j3, j4⟩ := head_join h hi
  obtain ⟨hs, bw, ew, g, r, s3, sc, hT, hl, _, he', _⟩ := brk_base h hi hb he
  refine ⟨hT, ?_, _, ns, hs.length, .nothing hs.length, (t.length : Int), scan_cpl sc, hl, ?_, j4, by omega, j1, .none hn, ?_, rfl⟩
  · intro d hd
    rcases List.mem_cons.mp hd with rfl | hd
    · rfl
    · rw [List.mem_singleton.mp hd]; rfl
  · rw [he']
    have := s3.plain (g := pwAt t.length (sgG "(")) (by kernel_rfl) (bw ++ (g :: r)) []
    simpa using this
  · intro k hk
    rcases hk with hk | ⟨_, hk⟩
    · injection hk with hk; subst hk
      exact ⟨pwAt t.length (sgG "("), by rw [he']; exact at_pre0 hs _, rfl⟩
    · cases hk
theorem type_brkI {i : Nat} {t e br d : Str} {ns : List Str} (h : HeadT i t ns none) (hi : i ≤ 3) (hn : (ns == []) = false) (hb : BrT (t.length : Int) br (.inl d)) (he : e ∈ ENDS) : RdOk (t ++ br ++ e) [.str (Txt.join (Str.ofString " ") ns ++ d), .int ((t.length : Int) + (br.length : Int))] := by
  obtain ⟨j1, j2, j3, j4⟩ := head_join h hi
  obtain ⟨_, l2, _, _⟩ := head_len h
  obtain ⟨hs, bw, ew, g, r, s3, sc, hT, hl, hO, he', hg⟩ := brk_base h hi hb he
  refine ⟨hT, ?_, _, ns, hs.length, .told (Txt.join (Str.ofString " ") ns ++ d) (hs.length + 1 + bw.length), (t.length : Int) + (br.length : Int), scan_cpl sc, hl, ?_, j4, by omega, j1, ?_, ?_, rfl⟩
  · intro x hd
    rcases List.mem_cons.mp hd with rfl | hd
    · exact strOk_app (join_ok (by omega) j4) (inl_ok hb)
    · rw [List.mem_singleton.mp hd]; rfl
  · rw [he']
    have := s3.plain (g := pwAt t.length (sgG "(")) (by kernel_rfl) (bw ++ (g :: r)) []
    simpa using this
  · rw [he']
    exact hO hs (g :: r) ns hn
  · intro k hk
    rcases hk with hk | ⟨_, hk⟩
    · cases hk
    · injection hk with _ hk; subst hk
      refine ⟨g, ?_, hg⟩
      rw [he']
      have := at_pre0 (hs ++ (pwAt t.length (sgG "(") :: bw)) (g :: r)
      rw [List.append_assoc] at this
      refine Eq.trans ?_ this
      congr 1
      simp; omega
theorem type_brkR {i : Nat} {t e br msg : Str} {pl : Int} {ns : List Str} (h : HeadT i t ns none) (hi : i ≤ 3) (hn : (ns == []) = false) (hb : BrT (t.length : Int) br (.inr (msg, pl))) (he : e ∈ ENDS) : RdOk (t ++ br ++ e) [.str (Str.ofString "refused"), .str msg, .int pl] := by
  obtain ⟨j1, j2, j3, j4⟩ := head_join h hi
  obtain ⟨hs, bw, ew, g, r, s3, sc, hT, hl, hO, he', hg⟩ := brk_base h hi hb he
  refine ⟨hT, ?_, _, ns, hs.length, .err msg pl, 0, scan_cpl sc, hl, ?_, j4, by omega, j1, ?_, ?_, rfl⟩
  · intro x hd
    simp only [List.mem_cons, List.not_mem_nil, or_false] at hd
    rcases hd with rfl | rfl | rfl
    · show PyData.strOk _ = true; decide +kernel
    · exact msg_ok hb
    · rfl
  · rw [he']
    have := s3.plain (g := pwAt t.length (sgG "(")) (by kernel_rfl) (bw ++ (g :: r)) []
    simpa using this
  · rw [he']
    exact hO hs (g :: r) ns hn
  · intro k hk
    rcases hk with hk | ⟨_, hk⟩ <;> cases hk
theorem toldD_t {ns : List Str} (h : (ns == []) = true) : toldD ns = .none := by unfold toldD; rw [if_pos h]
theorem toldD_f {ns : List Str} (h : (ns == []) = false) : toldD ns = .str (Txt.join (Str.ofString " ") ns) := by unfold toldD; rw [if_neg (by rw [h]; exact Bool.false_ne_true)]
theorem type_e1 {i : Nat} {t e : Str} {ns : List Str} (h : HeadT i t ns none) (hi : i ≤ 3) (he : e ∈ ENDS) (hn : (ns == []) = true) : RdOk (t ++ e) [.none, .int (t.length : Int)] := by have := type_end h hi he; rw [toldD_t hn] at this; exact this
theorem type_e2 {i : Nat} {t e : Str} {ns : List Str} (h : HeadT i t ns none) (hi : i ≤ 3) (he : e ∈ ENDS) (hn : (ns == []) = false) : RdOk (t ++ e) [.str (Txt.join (Str.ofString " ") ns), .int (t.length : Int)] := by have := type_end h hi he; rw [toldD_f hn] at this; exact this
theorem type_e3 {i k : Nat} {t e : Str} {ns : List Str} (h : HeadT i t ns (some k)) (hi : i ≤ 3) (he : e ∈ ENDS) (hn : (ns == []) = true) : RdOk (t ++ e) [.none, .int (k : Int)] := by have := type_end h hi he; rw [toldD_t hn] at this; exact this
theorem type_e4 {i k : Nat} {t e : Str} {ns : List Str} (h : HeadT i t ns (some k)) (hi : i ≤ 3) (he : e ∈ ENDS) (hn : (ns == []) = false) : RdOk (t ++ e) [.str (Txt.join (Str.ofString " ") ns), .int (k : Int)] := by have := type_end h hi he; rw [toldD_f hn] at this; exact this
end
section
open PySem PySem.W PySem.Calls PyProof.Rows
noncomputable def NameAt (ws : List PW) (k : Nat) (e : NEnd) : Prop :=
  (∃ f, ws[k]? = some f ∧ isFree f = false ∧ e = .bad f.pl) ∨ (∃ f v e', ws[k]? = some f ∧ isFree f = true ∧ f.val = .str v ∧ NRun ws (k + 1) e' ∧ e = e'.cons v)
theorem run_comma {ws : List PW} {k : Nat} {g : PW} {e : NEnd} (h : ws[k]? = some g) (hg : isSgn g (Str.ofString ",") = true) (hn : NameAt ws (k + 1) e) : NRun ws k e := by
  rcases hn with ⟨f, h1, h2, rfl⟩ | ⟨f, v, e', h1, h2, h3, h4, rfl⟩
  · exact .bad h hg h1 h2
  · exact .more h hg h1 h2 h3 h4
theorem names_bad {ws : List PW} {g : PW} {pl : Int} (h : ws[0]? = some g) (hg : isSgn g (Str.ofString "(") = true) (hn : NameAt ws 1 (.bad pl)) : NamesT ws 0 (.err (Str.ofString "a name is missing") pl) := by
  rcases hn with ⟨f, h1, h2, h3⟩ | ⟨f, v, e', h1, h2, h3, h4, h5⟩
  · injection h3 with h3; subst h3; exact .noName h hg h1 h2
  · cases e' with
    | fin vs j => cases h5
    | bad q =>
      injection h5 with h5
      subst h5
      exact .run h hg h1 h2 h3 h4 (fun q hq => by injection hq with hq; rw [hq]) (fun vs j hq => by cases hq)
theorem names_fin {ws : List PW} {g c : PW} {vs : List Str} {j : Nat} {out : NOut} (h : ws[0]? = some g) (hg : isSgn g (Str.ofString "(") = true) (hn : NameAt ws 1 (.fin vs j)) (hc : ws[j]? = some c)
    (ho : (isSgn c (Str.ofString ")") = true ∧ out = .names vs (j + 1)) ∨ (isSgn c (Str.ofString ")") = false ∧ out = .err (Str.ofString ")" ++ Str.ofString " is missing") c.pl)) : NamesT ws 0 out := by
  rcases hn with ⟨f, h1, h2, h3⟩ | ⟨f, v, e', h1, h2, h3, h4, h5⟩
  · cases h3
  · cases e' with
    | bad q => cases h5
    | fin vs' j' =>
      injection h5 with h5 h6
      subst h5 h6
      exact .run h hg h1 h2 h3 h4 (fun q hq => by cases hq) (fun vs j hq => by injection hq with q1 q2; subst q1 q2; exact ⟨c, hc, ho⟩)
noncomputable def consAll (vs : List Str) (e : NEnd) : NEnd := vs.foldr NEnd.cons e
theorem consAll_snoc (vs : List Str) (v : Str) (e : NEnd) : consAll (vs ++ [v]) e = consAll vs (e.cons v) := by unfold consAll; rw [List.foldr_append]; rfl
theorem consAll_bad (vs : List Str) (pl : Int) : consAll vs (.bad pl) = .bad pl := by
  induction vs with
  | nil => rfl
  | cons v vs ih => show NEnd.cons v (consAll vs (.bad pl)) = _; rw [ih]; rfl
theorem consAll_fin (vs us : List Str) (j : Nat) : consAll vs (.fin us j) = .fin (vs ++ us) j := by
  induction vs with
  | nil => rfl
  | cons v vs ih => show NEnd.cons v (consAll vs (.fin us j)) = _; rw [ih]; rfl
/-- a name is looked for behind t; the names vs are read -/
noncomputable def Opn (i : Nat) (t : Str) (vs : List Str) : Prop := t.length ≤ 10 + 9 * i ∧ (∀ v ∈ vs, PyData.strOk v = true) ∧ ∃ o hs, isSgn o (Str.ofString "(") = true ∧ Scn t (o :: hs) ∧ hs.length ≤ 2 * i ∧ ∀ r e, NameAt (o :: hs ++ r) (hs.length + 1) e → NameAt (o :: hs ++ r) 1 (consAll vs e)
/-- whatever word follows, the reader refuses -/
noncomputable def Err (i : Nat) (t : Str) (msg : Str) (pl : Int) : Prop := t.length ≤ 10 + 9 * i ∧ PyData.strOk msg = true ∧ ∃ hs, Scn t hs ∧ hs.length ≤ 2 * i + 1 ∧ ∀ g r, isSgn g (Str.ofString ",") = false → isSgn g (Str.ofString ")") = false → g.pl = (t.length : Int) → NamesT (hs ++ g :: r) 0 (.err msg pl)
noncomputable def WordG (W : Str) (g : Str × Str × WV) : Prop := W.length ≤ 7 ∧ TokW W g ∧ (∀ p, isSgn (pwAt p g) (Str.ofString ",") = false) ∧ (∀ p, isSgn (pwAt p g) (Str.ofString ")") = false)
noncomputable def FreeG (W v : Str) (g : Str × Str × WV) : Prop := WordG W g ∧ (∀ p, isFree (pwAt p g) = true) ∧ g.2.2 = .str v ∧ PyData.strOk v = true
noncomputable def BadG (W : Str) (g : Str × Str × WV) : Prop := WordG W g ∧ (∀ p, isFree (pwAt p g) = false)
theorem free_s {W v : Str} (h : (W, v) ∈ WSOME) : ∃ g, FreeG W v g := by
  obtain ⟨g, h1, h2, h3, h4, h5, h6, h7⟩ := wsome_tok h
  have hw : ∀ q ∈ WSOME, PyData.strOk q.2 = true := by decide +kernel
  exact ⟨g, ⟨(wsome_len h).1, h1, h5, h6⟩, h4, h2, hw _ h⟩
theorem free_l : ∃ g, FreeG (Str.ofString "Left") (Str.ofString "Left") g :=
  ⟨_, ⟨by decide +kernel, left_tok.1, left_tok.2.2.2.1, left_tok.2.2.2.2.1⟩, left_tok.2.2.1, rfl, by decide +kernel⟩
theorem bad_n {W : Str} (h : W ∈ WNONE) : ∃ g, BadG W g := by
  obtain ⟨g, h1, h2, h3, h4, h5, h6⟩ := wnone_tok h
  exact ⟨g, ⟨wnone_len (List.mem_cons_of_mem _ h), h1, h4, h5⟩, h3⟩
theorem scn_comma {t W : Str} {hs : List PW} {g : Str × Str × WV} (h : Scn t hs) (hw : TokW W g) : Scn (t ++ W ++ Str.ofString ",") (hs ++ [pwAt t.length g, pwAt (t.length + W.length) (sgG ",")]) := fun l ws hl => by
  have e : cpl (t ++ W ++ Str.ofString ",") ++ l = cpl t ++ (cpl W ++ 44 :: l) := by rw [cpl_app, cpl_app, c_cm]; simp
  rw [e, List.append_assoc]
  refine h _ _ (sl_word hw (.inr rfl) (sl_one (tk_comma l) ?_))
  rw [Str.length_append, Str.length_append, one_len.2.1] at hl
  exact hl
theorem scn_blank {t W : Str} {hs : List PW} {g : Str × Str × WV} (h : Scn t hs) (hw : TokW W g) : Scn (t ++ W ++ Str.ofString " ") (hs ++ [pwAt t.length g]) := by
  have := scn_word h hw (k := 1) (Nat.le_refl _)
  rw [show spN 1 = Str.ofString " " by decide +kernel] at this
  exact this
theorem scn_last {t W : Str} {hs : List PW} {g : Str × Str × WV} (h : Scn t hs) (hw : TokW W g) : ScanL 0 (cpl (t ++ W ++ Str.ofString " )")) (hs ++ [pwAt t.length g, pwAt (t.length + W.length + 1) (sgG ")")]) := by
  have e : cpl (t ++ W ++ Str.ofString " )") = cpl t ++ (cpl W ++ 32 :: [41]) := by rw [cpl_app, cpl_app, show cpl (Str.ofString " )") = [32, 41] by decide +kernel]; simp
  rw [e]
  exact h _ _ (sl_word hw (.inl rfl) (ScanL.blank (n := 1) (by kernel_rfl) rfl (sl_one (tk_close []) ScanL.fin)))
theorem l_cm : (Str.ofString ",").length = 1 := by decide +kernel
theorem l_sp : (Str.ofString " ").length = 1 := by decide +kernel
theorem l_la : (Str.ofString " )").length = 2 := by decide +kernel
theorem nm_word {o : PW} {hs r : List PW} {g : Str × Str × WV} {p : Nat} : (o :: hs ++ pwAt p g :: r)[hs.length + 1]? = some (pwAt p g) := at_pre0 (o :: hs) (pwAt p g :: r)
theorem nm_next {o : PW} {hs r : List PW} {g : PW} {c : PW} : (o :: hs ++ g :: c :: r)[hs.length + 1 + 1]? = some c := at_pre (o :: hs) (g :: c :: r) 1
theorem opn_comma {i : Nat} {t W v : Str} {vs : List Str} {g : Str × Str × WV} (h : Opn i t vs) (hw : FreeG W v g) : Opn (i + 1) (t ++ W ++ Str.ofString ",") (vs ++ [v]) := by
  obtain ⟨h1, h2, o, hs, h3, h4, h5, h6⟩ := h
  obtain ⟨⟨w1, w2, w3, w4⟩, w5, w6, w7⟩ := hw
  refine ⟨by simp only [Str.length_append, l_cm]; omega, ?_, o, hs ++ [pwAt t.length g, pwAt (t.length + W.length) (sgG ",")], h3, scn_comma h4 w2, by simp; omega, fun r e hn => ?_⟩
  · intro x hx
    rcases List.mem_append.mp hx with hx | hx
    · exact h2 x hx
    · rw [List.mem_singleton.mp hx]; exact w7
  · have ew : o :: (hs ++ [pwAt t.length g, pwAt (t.length + W.length) (sgG ",")]) ++ r = o :: hs ++ (pwAt t.length g :: pwAt (t.length + W.length) (sgG ",") :: r) := by simp
    rw [ew] at hn ⊢
    rw [consAll_snoc]
    refine h6 _ _ (.inr ⟨_, v, e, nm_word, w5 _, w6, run_comma nm_next (by kernel_rfl) ?_, rfl⟩)
    rw [show (hs ++ [pwAt t.length g, pwAt (t.length + W.length) (sgG ",")]).length + 1 = hs.length + 1 + 1 + 1 by simp] at hn
    exact hn
theorem opn_blank {i : Nat} {t W v : Str} {vs : List Str} {g : Str × Str × WV} (h : Opn i t vs) (hw : FreeG W v g) : Err (i + 1) (t ++ W ++ Str.ofString " ") (Str.ofString ") is missing") ((t ++ W ++ Str.ofString " ").length : Int) := by
  obtain ⟨h1, h2, o, hs, h3, h4, h5, h6⟩ := h
  obtain ⟨⟨w1, w2, w3, w4⟩, w5, w6, w7⟩ := hw
  refine ⟨by simp only [Str.length_append, l_sp]; omega, by decide +kernel, _, scn_blank h4 w2, by simp; omega, fun c r c1 c2 c3 => ?_⟩
  have ew : (o :: hs ++ [pwAt t.length g]) ++ c :: r = o :: hs ++ (pwAt t.length g :: c :: r) := by simp
  rw [ew, ← c3, show Str.ofString ") is missing" = Str.ofString ")" ++ Str.ofString " is missing" by decide +kernel]
  have := h6 (pwAt t.length g :: c :: r) _ (.inr ⟨_, v, .fin [] (hs.length + 1 + 1), nm_word, w5 _, w6, .stop nm_next c1, rfl⟩)
  rw [show NEnd.cons v (.fin [] (hs.length + 1 + 1)) = .fin [v] (hs.length + 1 + 1) from rfl, consAll_fin] at this
  exact names_fin (g := o) rfl h3 this nm_next (.inr ⟨c2, rfl⟩)
theorem opn_bad {i : Nat} {t W : Str} {vs : List Str} {g : Str × Str × WV} (h : Opn i t vs) (hw : BadG W g) (r : List PW) : ∀ o hs, (∀ r e, NameAt (o :: hs ++ r) (hs.length + 1) e → NameAt (o :: hs ++ r) 1 (consAll vs e)) → isSgn o (Str.ofString "(") = true → NamesT (o :: hs ++ (pwAt t.length g :: r)) 0 (.err (Str.ofString "a name is missing") (t.length : Int)) := by
  intro o hs h6 h3
  have := h6 (pwAt t.length g :: r) _ (.inl ⟨_, nm_word, hw.2 _, rfl⟩)
  rw [consAll_bad] at this
  exact names_bad (g := o) rfl h3 this
theorem opn_badc {i : Nat} {t W : Str} {vs : List Str} {g : Str × Str × WV} (h : Opn i t vs) (hw : BadG W g) : Err (i + 1) (t ++ W ++ Str.ofString ",") (Str.ofString "a name is missing") (t.length : Int) := by
  have h' := h
  obtain ⟨h1, h2, o, hs, h3, h4, h5, h6⟩ := h
  have hw' := hw
  obtain ⟨⟨w1, w2, w3, w4⟩, w5⟩ := hw
  refine ⟨by simp only [Str.length_append, l_cm]; omega, by decide +kernel, _, scn_comma h4 w2, by simp; omega, fun c r c1 c2 c3 => ?_⟩
  have := opn_bad h' hw' (pwAt (t.length + W.length) (sgG ",") :: c :: r) o hs h6 h3
  simpa using this
theorem opn_badb {i : Nat} {t W : Str} {vs : List Str} {g : Str × Str × WV} (h : Opn i t vs) (hw : BadG W g) : Err (i + 1) (t ++ W ++ Str.ofString " ") (Str.ofString "a name is missing") (t.length : Int) := by
  have h' := h
  obtain ⟨h1, h2, o, hs, h3, h4, h5, h6⟩ := h
  have hw' := hw
  obtain ⟨⟨w1, w2, w3, w4⟩, w5⟩ := hw
  refine ⟨by simp only [Str.length_append, l_sp]; omega, by decide +kernel, _, scn_blank h4 w2, by simp; omega, fun c r c1 c2 c3 => ?_⟩
  have := opn_bad h' hw' (c :: r) o hs h6 h3
  simpa using this
theorem err_c {i : Nat} {t W msg : Str} {pl : Int} {g : Str × Str × WV} (h : Err i t msg pl) (hw : WordG W g) : Err (i + 1) (t ++ W ++ Str.ofString ",") msg pl := by
  obtain ⟨h1, h2, hs, h3, h4, h5⟩ := h
  obtain ⟨w1, w2, w3, w4⟩ := hw
  refine ⟨by simp only [Str.length_append, l_cm]; omega, h2, _, scn_comma h3 w2, by simp; omega, fun c r _ _ _ => ?_⟩
  have := h5 (pwAt t.length g) (pwAt (t.length + W.length) (sgG ",") :: c :: r) (w3 _) (w4 _) rfl
  simpa using this
theorem err_b {i : Nat} {t W msg : Str} {pl : Int} {g : Str × Str × WV} (h : Err i t msg pl) (hw : WordG W g) : Err (i + 1) (t ++ W ++ Str.ofString " ") msg pl := by
  obtain ⟨h1, h2, hs, h3, h4, h5⟩ := h
  obtain ⟨w1, w2, w3, w4⟩ := hw
  refine ⟨by simp only [Str.length_append, l_sp]; omega, h2, _, scn_blank h3 w2, by simp; omega, fun c r _ _ _ => ?_⟩
  have := h5 (pwAt t.length g) (c :: r) (w3 _) (w4 _) rfl
  simpa using this
theorem ref_ok {msg : Str} {pl : Int} (h : PyData.strOk msg = true) : ∀ d ∈ ([.str (Str.ofString "refused"), .str msg, .int pl] : List Dat), kqdOk 8 d = true := by
  intro d hd
  simp only [List.mem_cons, List.not_mem_nil, or_false] at hd
  rcases hd with rfl | rfl | rfl
  · show PyData.strOk _ = true; decide +kernel
  · exact h
  · rfl
theorem opn_fin {i : Nat} {t W v : Str} {vs : List Str} {g : Str × Str × WV} (h : Opn i t vs) (hi : i ≤ 3) (hw : FreeG W v g) : NmOk (t ++ W ++ Str.ofString " )") [.list ((vs ++ [v]).map Dat.str), .int ((t ++ W ++ Str.ofString " )").length : Int)] := by
  obtain ⟨h1, h2, o, hs, h3, h4, h5, h6⟩ := h
  obtain ⟨⟨w1, w2, w3, w4⟩, w5, w6, w7⟩ := hw
  refine ⟨by simp only [Str.length_append, l_la]; omega, ?_, _, .names (vs ++ [v]) (hs.length + 1 + 1 + 1), ((t ++ W ++ Str.ofString " )").length : Int), scan_cpl (scn_last h4 w2), by simp; omega, ?_, ?_, rfl⟩
  · intro d hd
    simp only [List.mem_cons, List.not_mem_nil, or_false] at hd
    rcases hd with rfl | rfl
    · show List.all _ _ = true
      rw [List.all_eq_true]
      intro d hd
      obtain ⟨x, hx, rfl⟩ := List.mem_map.mp hd
      rcases List.mem_append.mp hx with hx | hx
      · exact h2 x hx
      · rw [List.mem_singleton.mp hx]; exact w7
    · rfl
  · have ew : (o :: hs ++ [pwAt t.length g, pwAt (t.length + W.length + 1) (sgG ")")]) ++ [endW (t ++ W ++ Str.ofString " )")] = o :: hs ++ (pwAt t.length g :: pwAt (t.length + W.length + 1) (sgG ")") :: [endW (t ++ W ++ Str.ofString " )")]) := by simp
    rw [ew]
    have := h6 (pwAt t.length g :: pwAt (t.length + W.length + 1) (sgG ")") :: [endW (t ++ W ++ Str.ofString " )")]) _ (.inr ⟨_, v, .fin [] (hs.length + 1 + 1), nm_word, w5 _, w6, .stop nm_next (by kernel_rfl), rfl⟩)
    rw [show NEnd.cons v (.fin [] (hs.length + 1 + 1)) = .fin [v] (hs.length + 1 + 1) from rfl, consAll_fin] at this
    exact names_fin (g := o) rfl h3 this nm_next (.inl ⟨by kernel_rfl, rfl⟩)
  · intro vs' k hk
    injection hk with _ hk
    subst hk
    refine ⟨endW (t ++ W ++ Str.ofString " )"), ?_, rfl⟩
    have := at_pre0 (o :: hs ++ [pwAt t.length g, pwAt (t.length + W.length + 1) (sgG ")")]) [endW (t ++ W ++ Str.ofString " )")]
    refine Eq.trans ?_ this
    congr 1
    simp
theorem opn_finb {i : Nat} {t W : Str} {vs : List Str} {g : Str × Str × WV} (h : Opn i t vs) (hi : i ≤ 3) (hw : BadG W g) : NmOk (t ++ W ++ Str.ofString " )") [.str (Str.ofString "refused"), .str (Str.ofString "a name is missing"), .int (t.length : Int)] := by
  have h' := h
  obtain ⟨h1, h2, o, hs, h3, h4, h5, h6⟩ := h
  have hw' := hw
  obtain ⟨⟨w1, w2, w3, w4⟩, w5⟩ := hw
  refine ⟨by simp only [Str.length_append, l_la]; omega, ref_ok (by decide +kernel), _, .err (Str.ofString "a name is missing") (t.length : Int), 0, scan_cpl (scn_last h4 w2), by simp; omega, ?_, (fun vs k hk => by cases hk), rfl⟩
  have := opn_bad h' hw' (pwAt (t.length + W.length + 1) (sgG ")") :: [endW (t ++ W ++ Str.ofString " )")]) o hs h6 h3
  simpa using this
theorem err_fin {i : Nat} {t W msg : Str} {pl : Int} {g : Str × Str × WV} (h : Err i t msg pl) (hi : i ≤ 3) (hw : WordG W g) : NmOk (t ++ W ++ Str.ofString " )") [.str (Str.ofString "refused"), .str msg, .int pl] := by
  obtain ⟨h1, h2, hs, h3, h4, h5⟩ := h
  obtain ⟨w1, w2, w3, w4⟩ := hw
  refine ⟨by simp only [Str.length_append, l_la]; omega, ref_ok h2, _, .err msg pl, 0, scan_cpl (scn_last h3 w2), by simp; omega, ?_, (fun vs k hk => by cases hk), rfl⟩
  have := h5 (pwAt t.length g) (pwAt (t.length + W.length + 1) (sgG ")") :: [endW (t ++ W ++ Str.ofString " )")]) (w3 _) (w4 _) rfl
  simpa using this
theorem opn_1 : Opn 0 (Str.ofString "(") [] := by
  refine ⟨by decide +kernel, by simp, pwAt 0 (sgG "("), [], by kernel_rfl, ?_, by simp, fun r e h => h⟩
  intro l ws h
  rw [c_op]
  exact sl_one (tk_open l) (by rw [show (Str.ofString "(").length = 1 by decide +kernel] at h; exact h)
theorem opn_2 : Opn 0 (Str.ofString " ( ") [] := by
  refine ⟨by decide +kernel, by simp, pwAt 1 (sgG "("), [], by kernel_rfl, ?_, by simp, fun r e h => h⟩
  intro l ws h
  rw [show cpl (Str.ofString " ( ") = [32, 40, 32] by decide +kernel]
  refine ScanL.blank (n := 1) (by kernel_rfl) rfl (sl_one (tk_open _) (ScanL.blank (n := 1) (by kernel_rfl) rfl ?_))
  rw [show (Str.ofString " ( ").length = 3 by decide +kernel] at h
  exact h
theorem nm_lit : NmOk (Str.ofString "x)") [.str (Str.ofString "refused"), .str (Str.ofString "( is missing"), .int 0] := by
  refine ⟨by decide +kernel, ref_ok (by decide +kernel), [pwAt 0 (nmW "X" "x"), pwAt 1 (sgG ")")], .err (Str.ofString "( is missing") 0, 0, scan_cpl ?_, by simp, ?_, (fun vs k hk => by cases hk), rfl⟩
  · rw [show cpl (Str.ofString "x)") = [120, 41] by decide +kernel]
    exact ScanL.word (n := 1) (by kernel_rfl) rfl (sl_one (tk_close []) ScanL.fin)
  · rw [show Str.ofString "( is missing" = Str.ofString "(" ++ Str.ofString " is missing" by decide +kernel]
    exact NamesT.noOpen (g := pwAt 0 (nmW "X" "x")) rfl (by kernel_rfl)
end
section
open PySem PySem.W PySem.Calls PyProof.Rows
noncomputable def toldv (ns : List Str) (t : Tok) : Value := if (ns == []) = true then .none else .str (Txt.join (Str.ofString " ") ns) t
theorem toldv_f {ns : List Str} {t : Tok} (h : (ns == []) = false) : toldv ns t = .str (Txt.join (Str.ofString " ") ns) t := by unfold toldv; rw [h]; rfl
theorem toldv_t {ns : List Str} {t : Tok} (h : (ns == []) = true) : toldv ns t = .none := by unfold toldv; rw [h]; rfl
theorem datin_told {news : List (Addr × Obj)} (ns : List Str) (t : Tok) : DatIn news (toldv ns t) (toldD ns) := by
  unfold toldv toldD
  split
  · exact .none
  · exact .str _ _
noncomputable def JoinT (ns : List Str) (h₀ : Heap) (L : Addr) (m : Str → Option Value) (news : List (Addr × Obj)) (s : Shared) (v : Value) (s₂ : Shared) : Prop :=
  ∃ t h' tk, v = toldv ns t ∧ s₂ = { s with heap := h', toks := tk } ∧ Fr h₀ L h' m ∧ News h₀ L h' news
section
variable {M : Model} {A : Around} {E : Value → Shared → Prop} {s : Shared} {Q : Value → Shared → Prop} {tree : Sem Value} {ns : List Str} {h₀ h : Heap} {L : Addr} {m : Str → Option Value} {news led : List (Addr × Obj)}
theorem join_told {l : List Value} (_ : StrsAre l ns) (_ : Fr h₀ L s.heap m) (_ : News h₀ L s.heap news) (h1 : wpAny M A tree (JoinT ns h₀ L m news s) E s) (h2 : ∀ t h' tk, Fr h₀ L h' m → News h₀ L h' news → Q (toldv ns t) { s with heap := h', toks := tk }) : wpAny M A tree Q E s :=
  wpAny_mono h1 (fun v s₂ q => by obtain ⟨t, h', tk, rfl, rfl, F, N⟩ := q; exact h2 t h' tk F N) fun _ _ e => e
theorem JoinT.none {s : Shared} {tk : Nat} (e : (ns == []) = true) (F : Fr h₀ L h m) (N : News h₀ L h led) (hs : ∀ p ∈ news, p ∈ led) : JoinT ns h₀ L m news s .none { s with heap := h, toks := tk } :=
  ⟨0, h, tk, (toldv_t e).symm, rfl, F, news_in N hs⟩
theorem JoinT.str {s : Shared} {tk : Nat} {t : Tok} (e : (ns == []) = false) (F : Fr h₀ L h m) (N : News h₀ L h led) (hs : ∀ p ∈ news, p ∈ led) : JoinT ns h₀ L m news s (.str (Txt.join (Str.ofString " ") ns) t) { s with heap := h, toks := tk } :=
  ⟨t, h, tk, (toldv_f e).symm, rfl, F, news_in N hs⟩
end
section
variable {prog : Program} {w : World} {A : Around} {E : Value → Shared → Prop} {s : Shared} {Q : Value → Shared → Prop}
theorem b_isnot {b : Option Nat} {t : Tok} (h1 : b = none → Q (.bool false) s) (h2 : ∀ k, b = some k → Q (.bool true) s) : wpAny (model prog w) A (compareOp .IsNot (bval b t) .none) Q E s := by
  cases b with
  | none => exact wpAny_isNot_self rfl (h1 rfl)
  | some k => exact wpAny_isNot_other rfl (by intro x; cases x) (h2 k rfl)
end
theorem type_n {i : Nat} {t e : Str} {ns : List Str} (h : HeadT i t ns none) (hi : i ≤ 3) (he : e ∈ ENDS) : RdOk (t ++ e) [toldD ns, .int (t.length : Int)] := type_end h hi he
theorem type_s {i k : Nat} {t e : Str} {ns : List Str} (h : HeadT i t ns (some k)) (hi : i ≤ 3) (he : e ∈ ENDS) : RdOk (t ++ e) [toldD ns, .int (k : Int)] := type_end h hi he
end
section
variable {prog : Program} {w : World} {p : Program} {loose : List Str} {mean : ExcName → Option Value} {mg mb : Str → Option Value}
  {dp un : Nat} {gd : Option (List Code)} {cn : Str} {cs : Scope} {a : Addr} {ccd : Value} {cl : List (Str × Addr)} {outer : List Env} {A₀ : Around} {base h₀ : Heap} {L : Addr} {m : Str → Option Value} {s : Shared}
  {Q E : Value → Shared → Prop} {rest : List (Addr × Obj)}
theorem kw_Tw1 : True := by
  w_top off
  k_with_none
  k_with "~k_all" => (first | with_reducible assumption | exact ne_of_allLt (by with_reducible assumption) | assumption | exact ne_of_allLt (by assumption))
  k_with "~memr" => (first | (with_reducible exact List.mem_cons_self ..) | ((with_reducible refine List.mem_cons_of_mem _ ?_); walk_at "memr") | (with_reducible assumption) | ((with_reducible refine List.mem_append_left _ ?_); walk_at "memr") | ((with_reducible refine List.mem_append_right _ ?_); walk_at "memr"))
  k_with "~memd" => (first | exact List.mem_cons_self .. | (refine List.mem_cons_of_mem _ ?_; walk_at "memd") | (refine List.mem_append.mpr (Or.inl ?_); walk_at "memd") | (refine List.mem_append.mpr (Or.inr ?_); walk_at "memd") | assumption)
  k_with "~k_mem" => (first | walk_at "memr" | walk_at "memd")
  k_with "~k_in" => (first | with_reducible assumption | exact Frag.In.keeps (by with_reducible assumption) (Fr.keep (by with_reducible assumption)))
  k_with "~k_room" => (((try simp only [depth_under_make, depth_under_kw, depth_in1, depth_deeper, depth_caller]); (try dsimp only [ktrTop]); first | walk_at "room" | omega))
  k_with "~mul_fits" => (k_dflt (exact mulOk_fmod _ _))
  k_with "~exec Raise some none" => ((k_here; (with_reducible show wpAny _ _ (exec (Stmt.Raise (some (Expr.Call (Expr.Name (Str.ofString "ParseError") _) _ _ _)) none _) _) _ _ _); refine Raise_E rfl ?_))
  k_with "~RaiseBack" => ((k_dflt (refine' RaiseBack.intro ?k1_8 ?k2_8 ?k3_8 ?k4_8 ?k5_8 ?_; (case k1_8 => k_asm); (case k2_8 => k_asm); (case k3_8 => k_asm); (case k4_8 => k_is); (case k5_8 => k_mem))))
  k_with "~call ref" => ((k_here; (with_reducible show wpAny _ _ (call (Value.ref 91) _ _) _ _ _); k_dflt (refine' call_excE ?k1_9 ?k2_9 ?k3_9 ?k4_9 ?k5_9 ?k6_9 ?k7_9 ?k8_9 ?k9_9 ?_; (case k1_9 => k_asm); (case k2_9 => k_asm); (case k3_9 => k_asm); (case k4_9 => k_is); (case k5_9 => k_is); (case k6_9 => k_is); (case k7_9 => k_is); (case k8_9 => k_is); (case k9_9 => size_fits); k_whole; intro e' t' h' F' N' l1 l2 l3; (try k_lt l1); (try k_lt2 l2); (try k_lt l3); (try k_sweep); (try dsimp only); k_enter)))
  k_with "~instx" => (first | (refine' inst_exc ?N_10 ?h1_10 ?h2_10; (case N_10 => with_reducible assumption); (case h1_10 => walk_at "memr"); (case h2_10 => walk_at "memr")) | (refine' inst_exc2 ?N_10 ?h1_10 ?hc_10 ?hd_10 ?hn_10 ?h2_10; (case hc_10 => with_reducible assumption); (case hd_10 => with_reducible assumption); (case hn_10 => with_reducible assumption); (case N_10 => with_reducible assumption); (case h1_10 => walk_at "memr"); (case h2_10 => walk_at "memr")))
  k_with "~instn" => ((refine' InstAt.of_news ?N_11 ?h1_11 ?h2_11; (case N_11 => with_reducible assumption); (case h1_11 => walk_at "memr"); (case h2_11 => walk_at "memr")))
  k_with "~k_inst" => (first | walk_at "instn" | walk_at "instx")
  k_with "~setAttr ref" => ((k_here; k_dflt (first | (refine' setE_new ?k1_13 ?k2_13 ?k3_13 ?k4_13 ?k5_13 ?k6_13 ?k6b_13 ?k7_13 ?k8_13 ?k9_13 ?k10_13 ?_; (case k1_13 => k_asm); (case k2_13 => k_asm); (case k3_13 => k_asm); (case k4_13 => k_all); (case k5_13 => k_is); (case k6_13 => k_is); (case k6b_13 => exact rfl); (case k7_13 => k_is); (case k8_13 => k_is); (case k9_13 => k_put); (case k10_13 => exact Nat.le_of_ble_eq_true rfl); k_whole; intro h' dx' F' N' l1 l2; (try k_lt l1); (try k_lt2 l2); (try k_sweep); (try dsimp only)) | (refine' setE_old ?k1_13 ?k2_13 ?k3_13 ?k4_13 ?k5_13 ?k6_13 ?k7_13 ?k7b_13 ?k8_13 ?k9_13 ?k10_13 ?k11_13 ?k12_13 ?k13_13 ?_; (case k1_13 => k_asm); (case k2_13 => k_asm); (case k3_13 => k_asm); (case k4_13 => walk_at "instx"); (case k5_13 => exact rfl); (case k6_13 => k_is); (case k7_13 => k_is); (case k7b_13 => exact rfl); (case k8_13 => k_is); (case k9_13 => k_is); (case k10_13 => k_get); (case k11_13 => k_put); (case k12_13 => k_upd); (case k13_13 => exact Nat.le_of_ble_eq_true rfl); k_whole; intro h' F' N'; (try k_sweep); (try dsimp only)))))
  k_with "~getAttr ref" => ((k_here; k_dflt (refine' getE ?k1_14 ?k2_14 ?k3_14 ?k4_14 ?k5_14 ?k6_14 ?k7_14 ?k8_14 ?k9_14 ?k10_14 ?_; (case k1_14 => k_asm); (case k2_14 => k_asm); (case k3_14 => walk_at "instx"); (case k4_14 => k_is); (case k5_14 => k_is); (case k6_14 => k_is); (case k7_14 => k_is); (case k8_14 => k_is); (case k9_14 => k_get); (case k10_14 => k_handed); k_whole)))
  k_with "~getAttr ref" => ((k_here; k_dflt (refine' get_own ?k1_15 ?k2_15 ?k3_15 ?k4_15 ?k5_15 ?k6_15 ?k7_15 ?k8_15 ?k9_15 ?_; (case k1_15 => k_asm); (case k2_15 => k_asm); (case k3_15 => walk_at "instn"); (case k4_15 => k_is); (case k5_15 => k_is); (case k6_15 => k_is); (case k7_15 => k_is); (case k8_15 => k_get); (case k9_15 => k_handed); k_whole)))
  k_with "~leaving ref" => ((k_here; k_dflt (first | (refine' leave_raiseD2 ?k1_16 ?k2_16 ?k3_16 ?k4_16 ?_; (case k1_16 => k_asm); (case k2_16 => k_asm); (case k3_16 => k_asm); (case k4_16 => k_all); k_whole; intro h' R' U'; (try dsimp only at R' U' ⊢)) | (refine' leave_onD ?k1_16 ?k2_16 ?k3_16 ?k4_16 ?_; (case k3_16 => k_asm); (case k2_16 => k_asm); (case k1_16 => k_asm); (case k4_16 => k_asm); k_whole; intro h' R' U'; (try dsimp only at R' U' ⊢)))))
  k_with "~subscriptTail Attribute Name Attribute ref int" => ((k_here; (with_reducible show wpAny _ _ (subscriptTail _ _ (Value.ref _) (Value.int _ _)) _ _ _); k_dflt (refine' item_ctx ?k1_17 ?k2_17 ?k3_17 ?k4_17 ?k5_17 ?_ ?k6_17; (case k1_17 => k_asm); (case k2_17 => k_mem); (case k3_17 => omega); (case k4_17 => omega); (case k5_17 => k_asm); (case k6_17 => with_unfolding_all rfl); k_whole)))
  k_with "~compareOp Eq str str" => ((k_here; k_dflt (refine eq_ctx (by k_asm) ?_)))
  k_with "~compareOp NotEq str str" => ((k_here; k_dflt (refine ne_ctx (by k_asm) ?_)))
  k_with "~call type:str" => ((k_here; (with_reducible show wpAny _ _ (call (Value.type "str") [Value.int _ _]) _ _ _); k_dflt (refine PySem.P.str_of_int (log_small (by k_asm) (by k_asm)) ?_)))
  k_with "~compareOp NotIn str ref" => ((k_here; k_dflt (first | refine resv_notin (by k_asm) (by k_asm) (by k_asm) ?_ | refine joinw_notin (by k_asm) (by k_asm) (by k_asm) ?_)))
  k_with "~compareOp In str ref" => ((k_here; k_dflt (refine sgn2_in (by k_asm) (by k_asm) (by k_asm) ?_)))
  k_with "~size_fits" => (exact size1000 (by k_asm))
  k_with "~subscriptTail Attribute Name Attribute str int" => ((k_here; (with_reducible show wpAny _ _ (subscriptTail _ _ (Value.str _ _) (Value.int _ _)) _ _ _); k_dflt (refine item_sctx (by k_asm) (by k_asm) ?_)))
  k_with "~compareOp In str str" => ((k_here; k_dflt (refine in_sctx (by k_asm) ?_)))
  k_with "~call builtin:ord" => ((k_here; (with_reducible show wpAny _ _ (call (Value.builtin "ord") [Value.str ⟨#[_]⟩ _]) _ _ _); refine ord_sctx ?_))
  k_with "~TurnI" => ((k_dflt (refine' TurnI.intro ?k1_27 ?k2_27 ?k3_27 ?k4_27; (case k1_27 => k_asm); (case k2_27 => k_asm); (case k3_27 => exact rfl); (case k4_27 => (intro z hz; simp [hz])))))
  k_with "~call builtin:str.isascii" => ((k_here; refine isascii_ctx (by k_asm) ?_))
  k_with "~subscriptTail Name Name str int" => ((k_here; k_dflt (refine item_sctx (by k_asm) (by k_asm) ?_)))
  k_with "~subscriptTail Attribute Name Slice str ref" => ((walk_at "last subscriptTail"))
  k_with "~storeName" => ((k_here; k_dflt (refine' storeX_L ?F_31 ?N_31 ?_ ?a_31 ?b_31; (case F_31 => k_asm); (case N_31 => k_asm); (case a_31 => rfl); (case b_31 => rfl); k_whole; intro h' F' N'; (try k_sweep); (try dsimp only))))
  k_with "~execs cons" => ((k_here; k_fold))
  k_with "~room" => (first | exact room1 (by with_reducible assumption) (Nat.le_of_ble_eq_true rfl) | exact room0 (by with_reducible assumption) (Nat.le_of_ble_eq_true rfl) | exact room2 (by with_reducible assumption) (Nat.le_of_ble_eq_true rfl))
  k_with "~ltc" => (first | (with_reducible assumption) | (with_reducible exact And.left (by with_reducible assumption)) | (with_reducible exact And.left (And.right (by with_reducible assumption))) | (with_reducible exact And.left (And.right (And.right (by with_reducible assumption)))) | (with_reducible exact And.left (And.right (And.right (And.right (by with_reducible assumption))))) | (with_reducible exact And.left (And.right (And.right (And.right (And.right (by with_reducible assumption)))))) | (with_reducible exact And.left (And.right (And.right (And.right (And.right (And.right (by with_reducible assumption))))))) | (with_reducible exact And.left (And.right (And.right (And.right (And.right (And.right (And.right (by with_reducible assumption)))))))) | (with_reducible exact (And.right (by with_reducible assumption))) | (with_reducible exact (And.right (And.right (by with_reducible assumption)))))
  k_with "~k_ne" => (((refine neN ?_); (try dsimp only); first | (with_reducible exact Nat.ne_of_lt (by walk_at "ltc")) | (with_reducible exact Nat.ne_of_gt (by walk_at "ltc"))))
  k_with "~k_ent0" => ((refine' code_defS0 ?k1_114 ?k2_114 ?k3_114 ?k4_114 ?k5_114 ?kA_114 ?k6_114 ?k7_114 ?k8_114 ?k9_114 ?kB_114 ?_ ?cK_114 ?c2_114 ?c3_114 ?c4_114 ?c5_114; (case kA_114 => exact rfl); (case k2_114 => k_asm); (case k1_114 => k_asm); (case k3_114 => k_asm); (case k4_114 => k_asm); (case k5_114 => k_asm); (case k6_114 => k_is); (case k7_114 => k_is); (case k8_114 => k_room); (case k9_114 => exact BindsTo.of_eq rfl); (case kB_114 => exact locs rfl); (case cK_114 => assumption); (case c2_114 => exact rfl); (case c3_114 => exact rfl); (case c4_114 => exact rfl); (case c5_114 => decide); k_whole; intro g' L' h' FG' F' N' B' X' T' D'; (try dsimp only); (try k_lift B'); (try k_fold)))
  k_with "~k_all" => (first | assumption | exact ne_of_allLt (by assumption) | exact Ne.symm (by assumption) | (show _ ≠ _; k_ne) | (exact obj_ne (by k_asm) (by k_mem) (by k_mem) (by intro e; exact absurd (Value.type.inj e) (by decide))) | ((refine List.forall_mem_cons.mpr ⟨?_, ?_⟩); (focus k_all); k_all))
  k_with "~k_upd" => (first | (refine' Upd.head ?a_105; (case a_105 => k_all)) | (refine' Upd.tail ?a_105 ?b_105; (case a_105 => k_all); (case b_105 => k_upd)))
  k_with "~call ref" => ((k_here; (with_reducible show wpAny _ _ (call (Value.ref 431) [Value.ref _, Value.int _ _]) _ _ _); (with_reducible rename News _ _ _ _ => nV); k_dflt (first | (have nV' := news_mvS (l := []) nV) | (have nV' := news_mvS (l := [_]) nV) | (have nV' := news_mvS (l := [_, _]) nV) | (have nV' := news_mvS (l := [_, _, _]) nV) | (have nV' := news_mvS (l := [_, _, _, _]) nV) | (have nV' := news_mvS (l := [_, _, _, _, _]) nV)); (try simp only [List.cons_append, List.nil_append] at nV'); clear nV; k_dflt (refine' take_ok ?k1_115 ?k2_115 ?k3_115 ?k4_115 ?k5_115 ?k6_115 ?k7_115 ?k8_115 ?k9_115 ?k10_115 ?k11_115 ?k12_115 ?k13_115 ?k14_115 ?_; (case k1_115 => k_asm); (case k2_115 => k_asm); (case k3_115 => k_asm); (case k4_115 => k_asm); (case k5_115 => k_asm); (case k6_115 => first | exact rfl | assumption); (case k7_115 => k_all); (case k8_115 => assumption); (case k9_115 => assumption); (case k10_115 => assumption); (case k11_115 => omega); (case k12_115 => omega); (case k13_115 => k_room); (case k14_115 => first | walk_at "room" | ((try simp only [units_under_make, units_in1, units_deeper, Around.mark_units, units_caller]); (try dsimp only [ktrTop]); first | walk_at "room" | omega)); k_whole; intro dW tdW xW yW txW tyW nW hW tkW fW nwW x0W y0W y1W d0W d1W; (try k_sweep); (try dsimp only))))
  k_with "~call ref" => ((k_here; (with_reducible show wpAny _ _ (call (Value.ref 438) _) _ _ _); (with_reducible rename News _ _ _ _ => nV); k_dflt (first | (have nV' := news_mvS (l := []) nV) | (have nV' := news_mvS (l := [_]) nV) | (have nV' := news_mvS (l := [_, _]) nV) | (have nV' := news_mvS (l := [_, _, _]) nV) | (have nV' := news_mvS (l := [_, _, _, _]) nV) | (have nV' := news_mvS (l := [_, _, _, _, _]) nV)); (try simp only [List.cons_append, List.nil_append] at nV'); clear nV; k_dflt (refine' one_str_ok ?k1_116 ?k2_116 ?k3_116 ?k4_116 ?k5_116 ?k6_116 ?k7_116 ?k8_116 ?k9_116 ?k10_116 ?k11_116 ?k12_116 ?k13_116 ?k14_116 ?k15_116 ?k16_116 ?_; (case k1_116 => k_asm); (case k2_116 => k_asm); (case k3_116 => k_asm); (case k4_116 => k_asm); (case k5_116 => k_asm); (case k6_116 => first | exact rfl | assumption); (case k11_116 => k_mem); (case k14_116 => first | exact StrsAre.cons _ _ (StrsAre.cons _ _ (StrsAre.cons _ _ (StrsAre.cons _ _ StrsAre.nil))) | exact StrsAre.cons _ _ (StrsAre.cons _ _ (StrsAre.cons _ _ StrsAre.nil))); (case k7_116 => k_all); (case k8_116 => assumption); (case k9_116 => assumption); (case k10_116 => assumption); (case k12_116 => exact Nat.le_of_ble_eq_true rfl); (case k13_116 => exact Nat.le_of_ble_eq_true rfl); (case k15_116 => k_room); (case k16_116 => first | walk_at "room" | ((try simp only [units_under_make, units_in1, units_deeper, Around.mark_units, units_caller]); (try dsimp only [ktrTop]); first | walk_at "room" | omega)); k_whole; intro eW tW xW yW txW tyW nW hW tkW fW nwW x0W y0W y1W memE; have memE2 : eW ∈ ENDS := memE; have lenE := ends_len memE2; (try k_sweep); (try dsimp only))))
  k_with "~call ref" => ((k_here; (with_reducible show wpAny _ _ (call (Value.ref 459) _) _ _ _); (with_reducible rename News _ _ _ _ => nV); k_dflt (first | (have nV' := news_mvS (l := []) nV) | (have nV' := news_mvS (l := [_]) nV) | (have nV' := news_mvS (l := [_, _]) nV) | (have nV' := news_mvS (l := [_, _, _]) nV) | (have nV' := news_mvS (l := [_, _, _, _]) nV) | (have nV' := news_mvS (l := [_, _, _, _, _]) nV)); (try simp only [List.cons_append, List.nil_append] at nV'); clear nV; k_dflt (refine' lhead_ok ?k1_117 ?k2_117 ?k3_117 ?k4_117 ?k5_117 ?k6_117 ?k7_117 ?k8_117 ?k9_117 ?k10_117 ?k11_117 ?k12_117 ?_; (case k1_117 => k_asm); (case k2_117 => k_asm); (case k3_117 => k_asm); (case k4_117 => k_asm); (case k5_117 => k_asm); (case k6_117 => first | exact rfl | assumption); (case k7_117 => k_all); (case k8_117 => assumption); (case k9_117 => assumption); (case k10_117 => assumption); (case k11_117 => k_room); (case k12_117 => first | walk_at "room" | ((try simp only [units_under_make, units_in1, units_deeper, Around.mark_units, units_caller]); (try dsimp only [ktrTop]); first | walk_at "room" | omega)); k_whole; intro iH tH nsH bH tupH lnH itsH nlH ttH tbH nnH xW yW txW tyW nW hW tkW iH3 headH fW nwW stH x0W y0W y1W neH1 neH2; obtain ⟨joH1, joH2, joH3, joH4⟩ := head_join headH iH3; have joH5 := Nat.le_trans joH2 (by decide : 1000 ≤ 100000); (try k_sweep); (try dsimp only))))
  k_with "~call ref" => ((k_here; (with_reducible show wpAny _ _ (call (Value.ref 473) _) _ _ _); (with_reducible rename News _ _ _ _ => nV); k_dflt (first | (have nV' := news_mvS (l := []) nV) | (have nV' := news_mvS (l := [_]) nV) | (have nV' := news_mvS (l := [_, _]) nV) | (have nV' := news_mvS (l := [_, _, _]) nV) | (have nV' := news_mvS (l := [_, _, _, _]) nV) | (have nV' := news_mvS (l := [_, _, _, _, _]) nV)); (try simp only [List.cons_append, List.nil_append] at nV'); clear nV; k_dflt (refine' lbracket_ok ?k1_118 ?k2_118 ?k3_118 ?k4_118 ?k5_118 ?k6_118 ?k7_118 ?k8_118 ?k9_118 ?k10_118 ?k11_118 ?k12_118 ?k13_118 ?k14_118 (fun brB dB tupB ttB tdB nnB xW yW txW tyW nW hW tkW brk fW nwW x0W y0W y1W => ?_) (fun brB msgB plB tupB tup2B ttB t1B t2B t3B nnB nmB xW yW txW tyW nW hW tkW brk fW nwW x0W y0W y1W => ?_); (case k1_118 => k_asm); (case k2_118 => k_asm); (case k3_118 => k_asm); (case k4_118 => k_asm); (case k5_118 => k_asm); (case k6_118 => first | exact rfl | assumption); (case k7_118 => k_all); (case k8_118 => assumption); (case k9_118 => assumption); (case k10_118 => assumption); (case k11_118 => omega); (case k12_118 => omega); (case k13_118 => k_room); (case k14_118 => first | walk_at "room" | ((try simp only [units_under_make, units_in1, units_deeper, Around.mark_units, units_caller]); (try dsimp only [ktrTop]); first | walk_at "room" | omega)); all_goals ((first | obtain ⟨lenB, lenD⟩ := br_lenI brk | obtain ⟨lenB, lenD⟩ := And.intro (br_lenR brk) True.intro); k_whole; (try k_sweep); (try dsimp only)))))
  k_with "~compareOp Eq int int" => ((k_here; (with_reducible show wpAny _ _ (compareOp CmpOp.Eq (Value.int _ _) (Value.int _ _)) _ _ _); k_dflt (refine' eq_int_two (fun wayW => ?_) (fun wayW => ?_))))
  k_with "~compareOp Eq ref ref" => ((k_here; (with_reducible show wpAny _ _ (compareOp CmpOp.Eq (Value.ref _) (Value.ref _)) _ _ _); (with_reducible rename HeadT _ _ _ _ => hdX); k_dflt (first | (refine' eqstrs_ctx ?k1_119 ?k2_119 ?k3_119 ?k4_119 ?k5_119 ?k6_119 ?k7_119 ?k8_119 ?k9_119 ?_; (case k1_119 => k_asm); (case k2_119 => walk_at "memr"); (case k3_119 => walk_at "memr"); (case k4_119 => assumption); (case k5_119 => exact StrsAre.nil); (case k6_119 => assumption); (case k7_119 => (intro v hv; cases hv)); (case k8_119 => first | walk_at "room" | ((try simp only [units_under_make, units_in1, units_deeper, Around.mark_units, units_caller]); (try dsimp only [ktrTop]); walk_at "room") | ke_room | omega | ((try simp only [units_under_make, units_in1, units_deeper, Around.mark_units, units_caller]); (try dsimp only [ktrTop]); omega)); (case k9_119 => assumption); k_whole) | (refine' eqstrs_two ?k1_119 ?k2_119 ?k3_119 ?k4_119 ?k5_119 ?k6_119 ?k7_119 ?k8_119 (fun nsE => ?_) (fun nsE => ?_); (case k1_119 => k_asm); (case k2_119 => walk_at "memr"); (case k3_119 => walk_at "memr"); (case k4_119 => assumption); (case k5_119 => exact StrsAre.nil); (case k6_119 => assumption); (case k7_119 => (intro v hv; cases hv)); (case k8_119 => first | walk_at "room" | ((try simp only [units_under_make, units_in1, units_deeper, Around.mark_units, units_caller]); (try dsimp only [ktrTop]); walk_at "room") | ke_room | omega | ((try simp only [units_under_make, units_in1, units_deeper, Around.mark_units, units_caller]); (try dsimp only [ktrTop]); omega))) | (refine' eqtup_ctx ?k1_119 ?k2_119 ?k3_119 ?k4_119 ?k5_119 ?k6_119 ?k7_119 ?k8_119 ?_; (case k1_119 => k_asm); (case k2_119 => walk_at "memr"); (case k3_119 => walk_at "memr"); (case k4_119 => (refine' DatAll.mono (news := []) (fun _ h => nomatch h) ?dd_119; (case dd_119 => assumption))); (case k5_119 => first | exact DatAll.cons (datin_told _ _) (DatAll.cons (DatIn.int _ _) DatAll.nil) | exact DatAll.cons (DatIn.str _ _) (DatAll.cons (DatIn.int _ _) DatAll.nil) | exact DatAll.cons DatIn.none (DatAll.cons (DatIn.int _ _) DatAll.nil) | exact DatAll.cons (DatIn.str _ _) (DatAll.cons (DatIn.str _ _) (DatAll.cons (DatIn.int _ _) DatAll.nil))); (case k6_119 => assumption); (case k7_119 => first | walk_at "room" | ((try simp only [units_under_make, units_in1, units_deeper, Around.mark_units, units_caller]); (try dsimp only [ktrTop]); walk_at "room") | ke_room | omega | ((try simp only [units_under_make, units_in1, units_deeper, Around.mark_units, units_caller]); (try dsimp only [ktrTop]); omega)); (case k8_119 => exact rfl); k_whole))))
  k_with "~call builtin:str.join" => ((k_here; (with_reducible show wpAny _ _ (call (Value.builtin "str.join") [Value.str _ _, Value.ref _]) _ _ _); k_dflt (refine' join_listC ?k1_120 ?k2_120 ?k3_120 ?k4_120 ?_; (case k1_120 => exact News.isList (by k_asm) (by k_mem)); (case k2_120 => assumption); (case k3_120 => decide); (case k4_120 => assumption); k_whole; intro _ _)))
  k_with "~call ref" => ((k_here; (with_reducible show wpAny _ _ (call (Value.ref 445) _) _ _ _); k_dflt (refine' rdl_ok ?k1_121 ?k2_121 ?k3_121 ?k4_121 ?k5_121 ?k6_121 ?k7_121 ?k8_121 ?k9_121 ?k10_121 ?k11_121 ?k12_121 ?_; (case k1_121 => k_asm); (case k2_121 => k_asm); (case k3_121 => k_asm); (case k4_121 => k_asm); (case k5_121 => k_asm); (case k6_121 => first | exact rfl | assumption); (case k7_121 => assumption); (case k8_121 => assumption); (case k9_121 => assumption); (case k10_121 => first | (refine' type_n ?a1_121 ?a2_121 ?a3_121; (case a1_121 => assumption); (case a2_121 => assumption); (case a3_121 => assumption)) | (refine' type_s ?a1_121 ?a2_121 ?a3_121; (case a1_121 => assumption); (case a2_121 => assumption); (case a3_121 => assumption)) | (refine' type_brk0 ?a1_121 ?a2_121 ?a3_121 ?a4_121 ?a5_121; (case a1_121 => assumption); (case a2_121 => assumption); (case a3_121 => assumption); (case a4_121 => assumption); (case a5_121 => assumption)) | (refine' type_brkI ?a1_121 ?a2_121 ?a3_121 ?a4_121 ?a5_121; (case a1_121 => assumption); (case a2_121 => assumption); (case a3_121 => assumption); (case a4_121 => assumption); (case a5_121 => assumption)) | (refine' type_brkR ?a1_121 ?a2_121 ?a3_121 ?a4_121 ?a5_121; (case a1_121 => assumption); (case a2_121 => assumption); (case a3_121 => assumption); (case a4_121 => assumption); (case a5_121 => assumption))); (case k11_121 => k_room); (case k12_121 => first | walk_at "room" | ((try simp only [units_under_make, units_in1, units_deeper, Around.mark_units, units_caller]); (try dsimp only [ktrTop]); first | walk_at "room" | omega)); k_whole; intro gL tupL valsL nL hL tkL T' F' N' dL kL B' X' P' D'; (try k_lift B'); (try k_sweep); (try dsimp only))))
  k_with "~compareOp Is none" => ((k_here; (with_reducible show wpAny _ _ (compareOp CmpOp.Is (bval _ _) Value.none) _ _ _); k_dflt (refine' b_is (fun eN => ?_) (fun kN eN => ?_); all_goals (subst eN; (try (dsimp only [bval] at *))))))
  k_with "~compareOp IsNot none" => ((k_here; (with_reducible show wpAny _ _ (compareOp CmpOp.IsNot (bval _ _) Value.none) _ _ _); k_dflt (refine' b_isnot (fun eN => ?_) (fun kN eN => ?_); all_goals (subst eN; (try (dsimp only [bval] at *))))))
  k_with "~eval IfExp" => ((k_here; (with_reducible show wpAny _ _ (eval (Expr.IfExp _ (Expr.Constant _ _ _) _ _) _) _ _ _); (fail_if_success (with_reducible show wpAny _ _ _ (JoinT _ _ _ _ _ _) _ _)); (with_reducible rename HeadT _ _ _ _ => hdX); (with_reducible rename StrsAre _ _ => saX); (rename Fr _ _ _ _ => lF'); (rename News _ _ _ _ => lN'); k_dflt (refine' join_told saX lF' lN' ?k1_123 (fun tJ hJ kJ fJ nJ => ?_); (case k1_123 => (k_steps; all_goals (first | exact JoinT.none (by assumption) (by k_asm) (by k_asm) (fun p hp => by repeat (first | exact hp | refine List.mem_cons_of_mem _ ?_)) | exact JoinT.str (by assumption) (by k_asm) (by k_asm) (fun p hp => by repeat (first | exact hp | refine List.mem_cons_of_mem _ ?_))))); (try dsimp only); (try k_sweep); (try dsimp only))))
  k_with "~binaryOp Add str" => ((k_here; (with_reducible show wpAny _ _ (binaryOp _ (toldv _ _) _) _ _ _); k_dflt (rw [toldv_f (by assumption)])))
  k_with "~call builtin:isinstance" => ((k_here; (with_reducible show wpAny _ _ (call _ [Value.ref _, Value.type _]) _ _ _); k_dflt (refine' kia_one kitx_tuple ?X_125 ?c_125 ?ee_125 ?nb_125 ?_; (case c_125 => refine' kitAt_N ?N_125 ?m_125 ?cc_125; (case N_125 => k_asm); (case m_125 => walk_at "memr"); (case cc_125 => rfl)); (case X_125 => k_in); (case ee_125 => kit_is); (case nb_125 => kit_nb); k_whole; intro _)))
  trivial
theorem sub2 {a : Addr × Obj} {l r : List (Addr × Obj)} (ha : a ∈ l) (hr : ∀ p ∈ r, p ∈ l) : ∀ p ∈ a :: r, p ∈ l := by
  intro p hp
  rcases List.mem_cons.mp hp with rfl | hp
  · exact ha
  · exact hr p hp
set_option maxHeartbeats 8000000 in
theorem tright_ok {src : Addr} {x y : Int} {tx ty : Tok} {n : Nat}
  (B : Below A₀ base [] h₀) (F : Fr h₀ L s.heap m) (X : (Mine.K1 w.params).In h₀) (N : News h₀ L s.heap ((src, listOf #[.int x tx, .int y ty] n) :: rest)) (T : Top p loose mean mg mb h₀) (hk : cs.kind = .function)
  (XB : (Mine.K1 w.params).In base) (TB : Top p loose mean mg mb base)
  (hr : ∀ p ∈ rest, p.1 ≠ src) (hx : 0 ≤ x) (hy0 : 0 ≤ y) (hy : y < 2147483647) (hd : dp + 200 < recursionLimit) (hu : un + 400 < cLine)
  (hret : ∀ x' y' tx' ty' n' h' tk', Fr h₀ L h' m → News h₀ L h' ((src, listOf #[.int x' tx', .int y' ty'] n') :: rest) → 0 ≤ x' → 0 ≤ y' → y' < 2147483647 → Q (.bool true) { s with heap := h', toks := tk' }) :
  wpAny (model prog w) (ktrTop dp un gd cn cs L a ccd [] []) (call (.ref 480) [.ref src]) Q E s := by
  refine wpAny_call ?_
  k_dflt (walk_at "k_ent0")
  k_steps
  all_goals (refine' hret _ _ _ _ _ _ _ (by k_asm) ?nw ?h1 ?h2 ?h3; (case nw => (refine news_in (by k_asm) (sub2 (by k_mem) ?_); (intro p hp; repeat (first | exact hp | refine List.mem_cons_of_mem _ ?_)))); (case h1 => assumption); (case h2 => assumption); (case h3 => assumption))
end
section
open PySem PySem.W PySem.Calls PyProof.Rows
noncomputable def NINIT : List Str := [Str.ofString "(", Str.ofString " ( ", Str.ofString "["]
theorem ninit_len {u : Str} (h : u ∈ NINIT) : u.length ≤ 3 := by
  have : ∀ q ∈ NINIT, q.length ≤ 3 := by decide +kernel
  exact this _ h
theorem ninit_opn {u : Str} (h : u ∈ NINIT) (hb : (u.cps.toList == (Str.ofString "[").cps.toList) = false) : Opn 0 u [] := by
  unfold NINIT at h
  simp only [List.mem_cons, List.not_mem_nil, or_false] at h
  rcases h with rfl | rfl | rfl
  · exact opn_1
  · exact opn_2
  · simp at hb
section
variable {prog : Program} {w : World} {A : Around} {E : Value → Shared → Prop} {s : Shared} {Q : Value → Shared → Prop} {x y : Str} {t u : Tok}
theorem eq_str_two (h1 : (x.cps.toList == y.cps.toList) = true → Q (.bool true) s) (h2 : (x.cps.toList == y.cps.toList) = false → Q (.bool false) s) : wpAny (model prog w) A (compareOp .Eq (.str x t) (.str y u)) Q E s := by
  cases h : (x.cps.toList == y.cps.toList) with
  | true => exact eq_ctx h (h1 h)
  | false => exact eq_ctx h (h2 h)
end
theorem last_yes {i n : Nat} {b : Int} (h : ((i : Int) == b - 1) = true) (hb : b = (n : Int)) : i + 1 = n := by
  have := beq_iff_eq.mp h; omega
theorem last_no {i n : Nat} {b : Int} (h : ((i : Int) == b - 1) = false) (hb : b = (n : Int)) (hi : i < n) : i + 1 < n := by
  have := beq_eq_false_iff_ne.mp h; omega
/-- between the turns of _law_names_right: no error yet, or one laid up -/
inductive NInv (fl src : Addr) (rest : List (Addr × Obj)) (n i : Nat) : Value → Value → List (Addr × Obj) → Prop
  | inv0 {t : Str} {tt : Tok} {its : Array Value} {nl : Nat} {x y : Int} {tx ty : Tok} {k : Nat} {vs : List Str} : its.size ≤ i → 0 ≤ x → 0 ≤ y → y < 2147483647 → StrsAre its.toList vs → (i < n → Opn i t vs) → (i = n → NmOk t [.list (vs.map Dat.str), .int (t.length : Int)]) →
      NInv fl src rest n i (.str t tt) .none ((src, listOf #[.int x tx, .int y ty] k) :: (fl, listOf its nl) :: rest)
  | inv1 {t : Str} {tt : Tok} {its : Array Value} {nl : Nat} {x y : Int} {tx ty : Tok} {k : Nat} {dt : Addr} {msg : Str} {pl : Int} {t1 t2 t3 : Tok} {nd : Nat} : its.size ≤ i → 0 ≤ x → 0 ≤ y → y < 2147483647 → (i < n → Err i t msg pl) → (i = n → NmOk t [.str (Str.ofString "refused"), .str msg, .int pl]) →
      NInv fl src rest n i (.str t tt) (.ref dt) ((src, listOf #[.int x tx, .int y ty] k) :: (fl, listOf its nl) :: (dt, tupD [.str (Str.ofString "refused") t1, .str msg t2, .int pl t3] nd) :: rest)
section
variable {fl src dt : Addr} {rest : List (Addr × Obj)} {n i nl k nd : Nat} {t W v msg : Str} {vs : List Str} {its : Array Value} {x y pl : Int} {tt tx ty tv t1 t2 t3 : Tok} {g : Str × Str × WV}
theorem NInv.start {u : Str} (_ : ∀ p ∈ rest, p.1 ≠ src) (hu : u ∈ NINIT) (hb : (u.cps.toList == (Str.ofString "[").cps.toList) = false) (hn : 0 < n) (h1 : 0 ≤ x) (h2 : 0 ≤ y) (h3 : y < 2147483647) : NInv fl src rest n 0 (.str u tt) .none ((src, listOf #[.int x tx, .int y ty] k) :: (fl, listOf #[] nl) :: rest) :=
  .inv0 (Nat.le_refl _) h1 h2 h3 StrsAre.nil (fun _ => ninit_opn hu hb) (fun h => by omega)
theorem NInv.okc (ho : Opn i t vs) (hw : ∃ g, FreeG W v g) (hst : StrsAre its.toList vs) (hsz : its.size ≤ i) (hl : i + 1 < n) (h1 : 0 ≤ x) (h2 : 0 ≤ y) (h3 : y < 2147483647) : NInv fl src rest n (i + 1) (.str (t ++ W ++ Str.ofString ",") tt) .none ((src, listOf #[.int x tx, .int y ty] k) :: (fl, listOf (its.push (.str v tv)) nl) :: rest) := by
  obtain ⟨g, hg⟩ := hw
  exact .inv0 (by rw [Array.size_push]; omega) h1 h2 h3 (vs := vs ++ [v]) (by rw [Array.toList_push]; exact strs_push hst v tv) (fun _ => opn_comma ho hg) (fun h => by omega)
theorem NInv.okf (ho : Opn i t vs) (hw : ∃ g, FreeG W v g) (hst : StrsAre its.toList vs) (hsz : its.size ≤ i) (hl : i + 1 = n) (hi : i ≤ 3) (h1 : 0 ≤ x) (h2 : 0 ≤ y) (h3 : y < 2147483647) : NInv fl src rest n (i + 1) (.str (t ++ W ++ Str.ofString " )") tt) .none ((src, listOf #[.int x tx, .int y ty] k) :: (fl, listOf (its.push (.str v tv)) nl) :: rest) := by
  obtain ⟨g, hg⟩ := hw
  exact .inv0 (by rw [Array.size_push]; omega) h1 h2 h3 (vs := vs ++ [v]) (by rw [Array.toList_push]; exact strs_push hst v tv) (fun h => by omega) (fun _ => opn_fin ho hi hg)
theorem NInv.okb (ho : Opn i t vs) (hw : ∃ g, FreeG W v g) (hsz : its.size ≤ i) (hl : i + 1 < n) (hp : pl = ((t ++ W ++ Str.ofString " ").length : Int)) (h1 : 0 ≤ x) (h2 : 0 ≤ y) (h3 : y < 2147483647) {va : Value} : NInv fl src rest n (i + 1) (.str (t ++ W ++ Str.ofString " ") tt) (.ref dt) ((src, listOf #[.int x tx, .int y ty] k) :: (fl, listOf (its.push va) nl) :: (dt, tupD [.str (Str.ofString "refused") t1, .str (Str.ofString ") is missing") t2, .int pl t3] nd) :: rest) := by
  obtain ⟨g, hg⟩ := hw
  exact .inv1 (by rw [Array.size_push]; omega) h1 h2 h3 (fun _ => by rw [hp]; exact opn_blank ho hg) (fun h => by omega)
theorem NInv.bad {va : Value} {sep : Str} (ho : Opn i t vs) (hw : ∃ g, BadG W g) (hsz : its.size ≤ i) (hl : (i + 1 < n ∧ (sep = Str.ofString "," ∨ sep = Str.ofString " ")) ∨ (i + 1 = n ∧ sep = Str.ofString " )")) (hi : i ≤ 3) (hp : pl = (t.length : Int)) (h1 : 0 ≤ x) (h2 : 0 ≤ y) (h3 : y < 2147483647) : NInv fl src rest n (i + 1) (.str (t ++ W ++ sep) tt) (.ref dt) ((src, listOf #[.int x tx, .int y ty] k) :: (fl, listOf (its.push va) nl) :: (dt, tupD [.str (Str.ofString "refused") t1, .str (Str.ofString "a name is missing") t2, .int pl t3] nd) :: rest) := by
  obtain ⟨g, hg⟩ := hw
  refine .inv1 (by rw [Array.size_push]; omega) h1 h2 h3 (fun h => ?_) (fun h => ?_)
  · rw [hp]
    rcases hl with ⟨_, rfl | rfl⟩ | ⟨hl, _⟩
    · exact opn_badc ho hg
    · exact opn_badb ho hg
    · omega
  · rw [hp]
    rcases hl with ⟨hl, _⟩ | ⟨_, rfl⟩
    · omega
    · exact opn_finb ho hi hg
theorem NInv.err {va : Value} {sep : Str} (ho : Err i t msg pl) (hw : ∃ g, WordG W g) (hsz : its.size ≤ i) (hl : (i + 1 < n ∧ (sep = Str.ofString "," ∨ sep = Str.ofString " ")) ∨ (i + 1 = n ∧ sep = Str.ofString " )")) (hi : i ≤ 3) (h1 : 0 ≤ x) (h2 : 0 ≤ y) (h3 : y < 2147483647) : NInv fl src rest n (i + 1) (.str (t ++ W ++ sep) tt) (.ref dt) ((src, listOf #[.int x tx, .int y ty] k) :: (fl, listOf (its.push va) nl) :: (dt, tupD [.str (Str.ofString "refused") t1, .str msg t2, .int pl t3] nd) :: rest) := by
  obtain ⟨g, hg⟩ := hw
  refine .inv1 (by rw [Array.size_push]; omega) h1 h2 h3 (fun h => ?_) (fun h => ?_)
  · rcases hl with ⟨_, rfl | rfl⟩ | ⟨hl, _⟩
    · exact err_c ho hg
    · exact err_b ho hg
    · omega
  · rcases hl with ⟨hl, _⟩ | ⟨_, rfl⟩
    · omega
    · exact err_fin ho hi hg
end
theorem word_s {W v : Str} (h : (W, v) ∈ WSOME) : ∃ g, WordG W g := (free_s h).imp fun _ h => h.1
theorem word_l : ∃ g, WordG (Str.ofString "Left") g := free_l.imp fun _ h => h.1
theorem word_n {W : Str} (h : W ∈ WNONE) : ∃ g, WordG W g := (bad_n h).imp fun _ h => h.1
theorem wk_free {W vD : Str} {nv : Value} {fr : Bool} (h : WordK W nv fr vD) (hf : fr = true) : ∃ g, FreeG W vD g := by
  cases h with
  | some h => exact free_s h
  | left => exact free_l
  | none h => cases hf
theorem wk_bad {W vD : Str} {nv : Value} {fr : Bool} (h : WordK W nv fr vD) (hf : fr = false) : ∃ g, BadG W g := by
  cases h with
  | some h => cases hf
  | left => cases hf
  | none h => exact bad_n h
theorem wk_word {W vD : Str} {nv : Value} {fr : Bool} (h : WordK W nv fr vD) : ∃ g, WordG W g := by
  cases h with
  | some h => exact word_s h
  | left => exact word_l
  | none h => exact word_n h
noncomputable def JoinP (vD : Str) (s : Shared) (v : Value) (s₂ : Shared) : Prop := ∃ t k, v = .str vD t ∧ s₂ = { s with toks := k }
theorem join_word {M : Model} {A : Around} {E : Value → Shared → Prop} {s : Shared} {Q : Value → Shared → Prop} {tree : Sem Value} {W vD : Str} {nv : Value} {fr : Bool} (_ : WordK W nv fr vD) (h1 : wpAny M A tree (JoinP vD s) E s) (h2 : ∀ t k, Q (.str vD t) { s with toks := k }) : wpAny M A tree Q E s :=
  wpAny_mono h1 (fun v s₂ q => by obtain ⟨t, k, rfl, rfl⟩ := q; exact h2 t k) fun _ _ e => e
theorem opn_len {i : Nat} {t : Str} {vs : List Str} (h : Opn i t vs) (hi : i ≤ 3) : t.length ≤ 100 := by have := h.1; omega
theorem err_len {i : Nat} {t msg : Str} {pl : Int} (h : Err i t msg pl) (hi : i ≤ 3) : t.length ≤ 100 := by have := h.1; omega
theorem sub5 {a b c d : Addr × Obj} {l r : List (Addr × Obj)} (ha : a ∈ l) (hb : b ∈ l) (hc : c ∈ l) (hd : d ∈ l) (hr : ∀ p ∈ r, p ∈ l) : ∀ p ∈ a :: b :: c :: d :: r, p ∈ l := by
  intro p hp
  rcases List.mem_cons.mp hp with rfl | hp
  · exact ha
  · exact sub4 hb hc hd hr p hp
section
variable {prog : Program} {w : World} {A : Around} {E : Value → Shared → Prop} {s : Shared} {env : Env} {h₀ : Heap} {x : Str} {body : List Stmt} {Q : Flow → Shared → Prop}
theorem range_inv3 {r : Addr} {t₀ u₀ v₀ : Tok} {b : Int} {y1 y2 : Str} {st : List Str} {m₀ : Str → Option Value} {v1 v2 : Value} {news : List (Addr × Obj)} (Inv : Nat → Nat → Value → Value → List (Addr × Obj) → Prop)
    (hh : A.handled = none) (hr : IsRange s.heap r 0 b 1 t₀ u₀ v₀) (hb0 : 0 ≤ b) (hb1 : b < 4) (F : Fr h₀ env.locals s.heap m₀) (N : News h₀ env.locals s.heap news) (h1 : m₀ y1 = some v1) (h2 : m₀ y2 = some v2) (hI : ∀ n : Nat, b = (n : Int) → Inv n 0 v1 v2 news)
    (turn : ∀ (n : Nat) I, b = (n : Int) → n < 4 → (∀ p ∈ news, p.1 < I) → ∀ i v1 v2 u news t h tk, i < n → Inv n i v1 v2 news → Fr h₀ env.locals h (fun y => if y = x then some (.int (i : Int) t) else M2 y1 y2 st u v1 v2 m₀ y) → News h₀ env.locals h ((I, itR ((i + 1 : Nat) : Int) ((n : Int) - ((i + 1 : Nat) : Int))) :: news) →
      wpAny (model prog w) A (execs body env) (TurnR h₀ env.locals s y1 y2 st m₀ I (itR ((i + 1 : Nat) : Int) ((n : Int) - ((i + 1 : Nat) : Int))) (Inv n (i + 1))) E { s with heap := h, toks := tk })
    (done : ∀ (n : Nat) v1 v2 u news h tk, b = (n : Int) → n < 4 → Inv n n v1 v2 news → Fr h₀ env.locals h (M2 y1 y2 st u v1 v2 m₀) → News h₀ env.locals h news → Q .next { s with heap := h, toks := tk }) :
    wpAny (model prog w) A (pyIter (.ref r)) (fun it s₂ => LoopAtV prog w A h₀ env x body Q E it s₂) E s := by
  obtain ⟨n, rfl⟩ := Int.eq_ofNat_of_zero_le hb0
  have hn : n < 4 := by omega
  exact range_inv (Inv n) hh hr hn F N h1 h2 (hI n rfl) (fun I hl => turn n I rfl hn hl) (fun v1 v2 u news h tk => done n v1 v2 u news h tk rfl hn)
end
theorem nm_len {T : Str} {ds : List Dat} (h : NmOk T ds) : T.length ≤ 1000 := h.1
end
section
variable {prog : Program} {w : World} {p : Program} {loose : List Str} {mean : ExcName → Option Value} {mg mb : Str → Option Value}
  {dp un : Nat} {gd : Option (List Code)} {cn : Str} {cs : Scope} {a : Addr} {ccd : Value} {cl : List (Str × Addr)} {outer : List Env} {A₀ : Around} {base h₀ : Heap} {L : Addr} {m : Str → Option Value} {s : Shared}
  {Q E : Value → Shared → Prop} {rest : List (Addr × Obj)}
theorem kw_Tw3 : True := by
  w_top off
  k_with_none
  k_with "~k_all" => (first | with_reducible assumption | exact ne_of_allLt (by with_reducible assumption) | assumption | exact ne_of_allLt (by assumption))
  k_with "~memr" => (first | (with_reducible exact List.mem_cons_self ..) | ((with_reducible refine List.mem_cons_of_mem _ ?_); walk_at "memr") | (with_reducible assumption) | ((with_reducible refine List.mem_append_left _ ?_); walk_at "memr") | ((with_reducible refine List.mem_append_right _ ?_); walk_at "memr"))
  k_with "~memd" => (first | exact List.mem_cons_self .. | (refine List.mem_cons_of_mem _ ?_; walk_at "memd") | (refine List.mem_append.mpr (Or.inl ?_); walk_at "memd") | (refine List.mem_append.mpr (Or.inr ?_); walk_at "memd") | assumption)
  k_with "~k_mem" => (first | walk_at "memr" | walk_at "memd")
  k_with "~k_in" => (first | with_reducible assumption | exact Frag.In.keeps (by with_reducible assumption) (Fr.keep (by with_reducible assumption)))
  k_with "~k_room" => (((try simp only [depth_under_make, depth_under_kw, depth_in1, depth_deeper, depth_caller]); (try dsimp only [ktrTop]); first | walk_at "room" | omega))
  k_with "~mul_fits" => (k_dflt (exact mulOk_fmod _ _))
  k_with "~exec Raise some none" => ((k_here; (with_reducible show wpAny _ _ (exec (Stmt.Raise (some (Expr.Call (Expr.Name (Str.ofString "ParseError") _) _ _ _)) none _) _) _ _ _); refine Raise_E rfl ?_))
  k_with "~RaiseBack" => ((k_dflt (refine' RaiseBack.intro ?k1_8 ?k2_8 ?k3_8 ?k4_8 ?k5_8 ?_; (case k1_8 => k_asm); (case k2_8 => k_asm); (case k3_8 => k_asm); (case k4_8 => k_is); (case k5_8 => k_mem))))
  k_with "~call ref" => ((k_here; (with_reducible show wpAny _ _ (call (Value.ref 91) _ _) _ _ _); k_dflt (refine' call_excE ?k1_9 ?k2_9 ?k3_9 ?k4_9 ?k5_9 ?k6_9 ?k7_9 ?k8_9 ?k9_9 ?_; (case k1_9 => k_asm); (case k2_9 => k_asm); (case k3_9 => k_asm); (case k4_9 => k_is); (case k5_9 => k_is); (case k6_9 => k_is); (case k7_9 => k_is); (case k8_9 => k_is); (case k9_9 => size_fits); k_whole; intro e' t' h' F' N' l1 l2 l3; (try k_lt l1); (try k_lt2 l2); (try k_lt l3); (try k_sweep); (try dsimp only); k_enter)))
  k_with "~instx" => (first | (refine' inst_exc ?N_10 ?h1_10 ?h2_10; (case N_10 => with_reducible assumption); (case h1_10 => walk_at "memr"); (case h2_10 => walk_at "memr")) | (refine' inst_exc2 ?N_10 ?h1_10 ?hc_10 ?hd_10 ?hn_10 ?h2_10; (case hc_10 => with_reducible assumption); (case hd_10 => with_reducible assumption); (case hn_10 => with_reducible assumption); (case N_10 => with_reducible assumption); (case h1_10 => walk_at "memr"); (case h2_10 => walk_at "memr")))
  k_with "~instn" => ((refine' InstAt.of_news ?N_11 ?h1_11 ?h2_11; (case N_11 => with_reducible assumption); (case h1_11 => walk_at "memr"); (case h2_11 => walk_at "memr")))
  k_with "~k_inst" => (first | walk_at "instn" | walk_at "instx")
  k_with "~setAttr ref" => ((k_here; k_dflt (first | (refine' setE_new ?k1_13 ?k2_13 ?k3_13 ?k4_13 ?k5_13 ?k6_13 ?k6b_13 ?k7_13 ?k8_13 ?k9_13 ?k10_13 ?_; (case k1_13 => k_asm); (case k2_13 => k_asm); (case k3_13 => k_asm); (case k4_13 => k_all); (case k5_13 => k_is); (case k6_13 => k_is); (case k6b_13 => exact rfl); (case k7_13 => k_is); (case k8_13 => k_is); (case k9_13 => k_put); (case k10_13 => exact Nat.le_of_ble_eq_true rfl); k_whole; intro h' dx' F' N' l1 l2; (try k_lt l1); (try k_lt2 l2); (try k_sweep); (try dsimp only)) | (refine' setE_old ?k1_13 ?k2_13 ?k3_13 ?k4_13 ?k5_13 ?k6_13 ?k7_13 ?k7b_13 ?k8_13 ?k9_13 ?k10_13 ?k11_13 ?k12_13 ?k13_13 ?_; (case k1_13 => k_asm); (case k2_13 => k_asm); (case k3_13 => k_asm); (case k4_13 => walk_at "instx"); (case k5_13 => exact rfl); (case k6_13 => k_is); (case k7_13 => k_is); (case k7b_13 => exact rfl); (case k8_13 => k_is); (case k9_13 => k_is); (case k10_13 => k_get); (case k11_13 => k_put); (case k12_13 => k_upd); (case k13_13 => exact Nat.le_of_ble_eq_true rfl); k_whole; intro h' F' N'; (try k_sweep); (try dsimp only)))))
  k_with "~getAttr ref" => ((k_here; k_dflt (refine' getE ?k1_14 ?k2_14 ?k3_14 ?k4_14 ?k5_14 ?k6_14 ?k7_14 ?k8_14 ?k9_14 ?k10_14 ?_; (case k1_14 => k_asm); (case k2_14 => k_asm); (case k3_14 => walk_at "instx"); (case k4_14 => k_is); (case k5_14 => k_is); (case k6_14 => k_is); (case k7_14 => k_is); (case k8_14 => k_is); (case k9_14 => k_get); (case k10_14 => k_handed); k_whole)))
  k_with "~getAttr ref" => ((k_here; k_dflt (refine' get_own ?k1_15 ?k2_15 ?k3_15 ?k4_15 ?k5_15 ?k6_15 ?k7_15 ?k8_15 ?k9_15 ?_; (case k1_15 => k_asm); (case k2_15 => k_asm); (case k3_15 => walk_at "instn"); (case k4_15 => k_is); (case k5_15 => k_is); (case k6_15 => k_is); (case k7_15 => k_is); (case k8_15 => k_get); (case k9_15 => k_handed); k_whole)))
  k_with "~leaving ref" => ((k_here; k_dflt (first | (refine' leave_raiseD2 ?k1_16 ?k2_16 ?k3_16 ?k4_16 ?_; (case k1_16 => k_asm); (case k2_16 => k_asm); (case k3_16 => k_asm); (case k4_16 => k_all); k_whole; intro h' R' U'; (try dsimp only at R' U' ⊢)) | (refine' leave_onD ?k1_16 ?k2_16 ?k3_16 ?k4_16 ?_; (case k3_16 => k_asm); (case k2_16 => k_asm); (case k1_16 => k_asm); (case k4_16 => k_asm); k_whole; intro h' R' U'; (try dsimp only at R' U' ⊢)))))
  k_with "~subscriptTail Attribute Name Attribute ref int" => ((k_here; (with_reducible show wpAny _ _ (subscriptTail _ _ (Value.ref _) (Value.int _ _)) _ _ _); k_dflt (refine' item_ctx ?k1_17 ?k2_17 ?k3_17 ?k4_17 ?k5_17 ?_ ?k6_17; (case k1_17 => k_asm); (case k2_17 => k_mem); (case k3_17 => omega); (case k4_17 => omega); (case k5_17 => k_asm); (case k6_17 => with_unfolding_all rfl); k_whole)))
  k_with "~compareOp Eq str str" => ((k_here; k_dflt (refine eq_ctx (by k_asm) ?_)))
  k_with "~compareOp NotEq str str" => ((k_here; k_dflt (refine ne_ctx (by k_asm) ?_)))
  k_with "~call type:str" => ((k_here; (with_reducible show wpAny _ _ (call (Value.type "str") [Value.int _ _]) _ _ _); k_dflt (refine PySem.P.str_of_int (log_small (by k_asm) (by k_asm)) ?_)))
  k_with "~compareOp NotIn str ref" => ((k_here; k_dflt (first | refine resv_notin (by k_asm) (by k_asm) (by k_asm) ?_ | refine joinw_notin (by k_asm) (by k_asm) (by k_asm) ?_)))
  k_with "~compareOp In str ref" => ((k_here; k_dflt (refine sgn2_in (by k_asm) (by k_asm) (by k_asm) ?_)))
  k_with "~size_fits" => (exact size1000 (by k_asm))
  k_with "~subscriptTail Attribute Name Attribute str int" => ((k_here; (with_reducible show wpAny _ _ (subscriptTail _ _ (Value.str _ _) (Value.int _ _)) _ _ _); k_dflt (refine item_sctx (by k_asm) (by k_asm) ?_)))
  k_with "~compareOp In str str" => ((k_here; k_dflt (refine in_sctx (by k_asm) ?_)))
  k_with "~call builtin:ord" => ((k_here; (with_reducible show wpAny _ _ (call (Value.builtin "ord") [Value.str ⟨#[_]⟩ _]) _ _ _); refine ord_sctx ?_))
  k_with "~TurnI" => ((k_dflt (refine' TurnI.intro ?k1_27 ?k2_27 ?k3_27 ?k4_27; (case k1_27 => k_asm); (case k2_27 => k_asm); (case k3_27 => exact rfl); (case k4_27 => (intro z hz; simp [hz])))))
  k_with "~call builtin:str.isascii" => ((k_here; refine isascii_ctx (by k_asm) ?_))
  k_with "~subscriptTail Name Name str int" => ((k_here; k_dflt (refine item_sctx (by k_asm) (by k_asm) ?_)))
  k_with "~subscriptTail Attribute Name Slice str ref" => ((walk_at "last subscriptTail"))
  k_with "~storeName" => ((k_here; k_dflt (refine' storeX_L ?F_31 ?N_31 ?_ ?a_31 ?b_31; (case F_31 => k_asm); (case N_31 => k_asm); (case a_31 => rfl); (case b_31 => rfl); k_whole; intro h' F' N'; (try k_sweep); (try dsimp only))))
  k_with "~execs cons" => ((k_here; k_fold))
  k_with "~room" => (first | exact room1 (by with_reducible assumption) (Nat.le_of_ble_eq_true rfl) | exact room0 (by with_reducible assumption) (Nat.le_of_ble_eq_true rfl) | exact room2 (by with_reducible assumption) (Nat.le_of_ble_eq_true rfl))
  k_with "~ltc" => (first | (with_reducible assumption) | (with_reducible exact And.left (by with_reducible assumption)) | (with_reducible exact And.left (And.right (by with_reducible assumption))) | (with_reducible exact And.left (And.right (And.right (by with_reducible assumption)))) | (with_reducible exact And.left (And.right (And.right (And.right (by with_reducible assumption))))) | (with_reducible exact And.left (And.right (And.right (And.right (And.right (by with_reducible assumption)))))) | (with_reducible exact And.left (And.right (And.right (And.right (And.right (And.right (by with_reducible assumption))))))) | (with_reducible exact And.left (And.right (And.right (And.right (And.right (And.right (And.right (by with_reducible assumption)))))))) | (with_reducible exact (And.right (by with_reducible assumption))) | (with_reducible exact (And.right (And.right (by with_reducible assumption)))))
  k_with "~k_ne" => (((refine neN ?_); (try dsimp only); first | (with_reducible exact Nat.ne_of_lt (by walk_at "ltc")) | (with_reducible exact Nat.ne_of_gt (by walk_at "ltc"))))
  k_with "~k_ent0" => ((refine' code_defS0 ?k1_114 ?k2_114 ?k3_114 ?k4_114 ?k5_114 ?kA_114 ?k6_114 ?k7_114 ?k8_114 ?k9_114 ?kB_114 ?_ ?cK_114 ?c2_114 ?c3_114 ?c4_114 ?c5_114; (case kA_114 => exact rfl); (case k2_114 => k_asm); (case k1_114 => k_asm); (case k3_114 => k_asm); (case k4_114 => k_asm); (case k5_114 => k_asm); (case k6_114 => k_is); (case k7_114 => k_is); (case k8_114 => k_room); (case k9_114 => exact BindsTo.of_eq rfl); (case kB_114 => exact locs rfl); (case cK_114 => assumption); (case c2_114 => exact rfl); (case c3_114 => exact rfl); (case c4_114 => exact rfl); (case c5_114 => decide); k_whole; intro g' L' h' FG' F' N' B' X' T' D'; (try dsimp only); (try k_lift B'); (try k_fold)))
  k_with "~k_all" => (first | assumption | exact ne_of_allLt (by assumption) | exact Ne.symm (by assumption) | (show _ ≠ _; k_ne) | (exact obj_ne (by k_asm) (by k_mem) (by k_mem) (by intro e; exact absurd (Value.type.inj e) (by decide))) | ((refine List.forall_mem_cons.mpr ⟨?_, ?_⟩); (focus k_all); k_all))
  k_with "~k_upd" => (first | (refine' Upd.head ?a_105; (case a_105 => k_all)) | (refine' Upd.tail ?a_105 ?b_105; (case a_105 => k_all); (case b_105 => k_upd)))
  k_with "~call ref" => ((k_here; (with_reducible show wpAny _ _ (call (Value.ref 431) [Value.ref _, Value.int _ _]) _ _ _); (with_reducible rename News _ _ _ _ => nV); k_dflt (first | (have nV' := news_mvS (l := []) nV) | (have nV' := news_mvS (l := [_]) nV) | (have nV' := news_mvS (l := [_, _]) nV) | (have nV' := news_mvS (l := [_, _, _]) nV) | (have nV' := news_mvS (l := [_, _, _, _]) nV) | (have nV' := news_mvS (l := [_, _, _, _, _]) nV)); (try simp only [List.cons_append, List.nil_append] at nV'); clear nV; k_dflt (refine' take_ok ?k1_115 ?k2_115 ?k3_115 ?k4_115 ?k5_115 ?k6_115 ?k7_115 ?k8_115 ?k9_115 ?k10_115 ?k11_115 ?k12_115 ?k13_115 ?k14_115 ?_; (case k1_115 => k_asm); (case k2_115 => k_asm); (case k3_115 => k_asm); (case k4_115 => k_asm); (case k5_115 => k_asm); (case k6_115 => first | exact rfl | assumption); (case k7_115 => k_all); (case k8_115 => assumption); (case k9_115 => assumption); (case k10_115 => assumption); (case k11_115 => omega); (case k12_115 => omega); (case k13_115 => k_room); (case k14_115 => first | walk_at "room" | ((try simp only [units_under_make, units_in1, units_deeper, Around.mark_units, units_caller]); (try dsimp only [ktrTop]); first | walk_at "room" | omega)); k_whole; intro dW tdW xW yW txW tyW nW hW tkW fW nwW x0W y0W y1W d0W d1W; (try k_sweep); (try dsimp only))))
  k_with "~call ref" => ((k_here; (with_reducible show wpAny _ _ (call (Value.ref 438) _) _ _ _); (with_reducible rename News _ _ _ _ => nV); k_dflt (first | (have nV' := news_mvS (l := []) nV) | (have nV' := news_mvS (l := [_]) nV) | (have nV' := news_mvS (l := [_, _]) nV) | (have nV' := news_mvS (l := [_, _, _]) nV) | (have nV' := news_mvS (l := [_, _, _, _]) nV) | (have nV' := news_mvS (l := [_, _, _, _, _]) nV)); (try simp only [List.cons_append, List.nil_append] at nV'); clear nV; k_dflt (refine' one_str_ok ?k1_126 ?k2_126 ?k3_126 ?k4_126 ?k5_126 ?k6_126 ?k7_126 ?k8_126 ?k9_126 ?k10_126 ?k11_126 ?k12_126 ?k13_126 ?k14_126 ?k15_126 ?k16_126 ?_; (case k1_126 => k_asm); (case k2_126 => k_asm); (case k3_126 => k_asm); (case k4_126 => k_asm); (case k5_126 => k_asm); (case k6_126 => first | exact rfl | assumption); (case k11_126 => k_mem); (case k14_126 => first | exact StrsAre.cons _ _ (StrsAre.cons _ _ (StrsAre.cons _ _ (StrsAre.cons _ _ StrsAre.nil))) | exact StrsAre.cons _ _ (StrsAre.cons _ _ (StrsAre.cons _ _ StrsAre.nil))); (case k7_126 => k_all); (case k8_126 => assumption); (case k9_126 => assumption); (case k10_126 => assumption); (case k12_126 => exact Nat.le_of_ble_eq_true rfl); (case k13_126 => exact Nat.le_of_ble_eq_true rfl); (case k15_126 => k_room); (case k16_126 => first | walk_at "room" | ((try simp only [units_under_make, units_in1, units_deeper, Around.mark_units, units_caller]); (try dsimp only [ktrTop]); first | walk_at "room" | omega)); k_whole; intro eW tW xW yW txW tyW nW hW tkW fW nwW x0W y0W y1W memE; have memE2 : eW ∈ NINIT := memE; have lenE := ninit_len memE2; (try k_sweep); (try dsimp only))))
  k_with "~call ref" => ((k_here; (with_reducible show wpAny _ _ (call (Value.ref 452) _) _ _ _); (with_reducible rename News _ _ _ _ => nV); k_dflt (first | (have nV' := news_mvS (l := []) nV) | (have nV' := news_mvS (l := [_]) nV) | (have nV' := news_mvS (l := [_, _]) nV) | (have nV' := news_mvS (l := [_, _, _]) nV) | (have nV' := news_mvS (l := [_, _, _, _]) nV) | (have nV' := news_mvS (l := [_, _, _, _, _]) nV)); (try simp only [List.cons_append, List.nil_append] at nV'); clear nV;  k_dflt (refine' word_ok ?k1_127 ?k2_127 ?k3_127 ?k4_127 ?k5_127 ?k6_127 ?k7_127 ?k8_127 ?k9_127 ?k10_127 ?k11_127 ?k12_127 (fun WW nvW frW vDW tupW tWW nnW xW yW txW tyW nW hW tkW memW lenW1 fW nwW x0W y0W y1W => ?_); (case k1_127 => k_asm); (case k2_127 => k_asm); (case k3_127 => k_asm); (case k4_127 => k_asm); (case k5_127 => k_asm); (case k6_127 => first | exact rfl | assumption); (case k7_127 => k_all); (case k8_127 => assumption); (case k9_127 => assumption); (case k10_127 => assumption); (case k11_127 => k_room); (case k12_127 => first | walk_at "room" | ((try simp only [units_under_make, units_in1, units_deeper, Around.mark_units, units_caller]); (try dsimp only [ktrTop]); first | walk_at "room" | omega)); all_goals (k_whole; (try k_sweep); (try dsimp only)))))
  k_with "~compareOp Eq str str" => ((k_here; (with_reducible show wpAny _ _ (compareOp CmpOp.Eq (Value.str _ _) (Value.str _ _)) _ _ _); k_dflt (refine' eq_str_two (fun wayS => ?_) (fun wayS => ?_))))
  k_with "~compareOp Eq int int" => ((k_here; (with_reducible show wpAny _ _ (compareOp CmpOp.Eq (Value.int _ _) (Value.int _ _)) _ _ _); k_dflt (refine' eq_int_two (fun wayW => ?_) (fun wayW => ?_))))
  k_with "~call type:range" => ((k_here; (with_reducible show wpAny _ _ (call (Value.type "range") [Value.int _ _]) _ _ _); (rename Fr _ _ _ _ => F'); (rename News _ _ _ _ => N'); (with_unfolding_all refine range1_rows F' N' ?_; intro hRg tkRg t1Rg u1Rg v1Rg hhRg FRg NRg kRg)))
  k_with "~pyIter ref" => ((k_here; (with_reducible show wpAny _ _ (pyIter (Value.ref _)) (fun it s₂ => LoopAtV _ _ _ _ _ _ _ _ _ it s₂) _ _); (rename Fr _ _ _ _ => lF'); (rename News _ _ _ _ => lN'); (rename IsRange _ _ _ _ _ _ _ _ => rgX); (with_unfolding_all refine' range_inv3 (y1 := PySem.Str.ofString "text") (y2 := PySem.Str.ofString "due") (st := [PySem.Str.ofString "turn", PySem.Str.ofString "word", PySem.Str.ofString "name", PySem.Str.ofString "free", PySem.Str.ofString "behind"]) (NInv _ _ _) ?k1_129 rgX ?k3_129 ?k4_129 lF' ?k6_129 ?k7_129 ?k8_129 ?k9_129 (fun nR IR bR nR4 lR iR v1R v2R uR newsR tR hR tkR hiR invR fR nwR => ?_) (fun nR v1R v2R uR newsR hR tkR bR nR4 invR fR nwR => ?_); (case k1_129 => exact rfl); (case k3_129 => omega); (case k4_129 => omega); (case k7_129 => exact rfl); (case k8_129 => exact rfl); (case' k9_129 => (intro nQ bQ; refine' NInv.start ?q0_129 ?q1_129 ?q2_129 ?q3_129 ?q4_129 ?q5_129 ?q6_129; (case q0_129 => assumption))); (case k6_129 => k_dflt (refine news_in lN' (sub3 (by k_mem) (by k_mem) ?_); (intro p hp; repeat (first | exact hp | refine List.mem_cons_of_mem _ ?_)))); (case q1_129 => assumption); (case q2_129 => assumption); (case q3_129 => omega); (case q4_129 => assumption); (case q5_129 => assumption); (case q6_129 => assumption)); all_goals (k_dflt (cases invR); all_goals ((try k_lt lR); (try k_whole); (rename (Array.size _ ≤ _) => hszH); have szH1 := Nat.le_trans hszH (by first | exact le1000_of (by assumption) (by assumption) | exact le_of4 (by assumption) | omega : _ ≤ 1000); (first | (have hltH := hiR; have iH3 : iR ≤ 3 := (by first | exact le3_of hiR nR4 | omega); (first | ((rename (_ < _ → Opn _ _ _) => hopH); replace hopH := hopH hltH; have lenTH := opn_len hopH (by omega)) | ((rename (_ < _ → Err _ _ _ _) => hopH); replace hopH := hopH hltH; have lenTH := err_len hopH (by omega)))) | ((rename (_ = _ → NmOk _ _) => hopH); have hopH3 := hopH rfl; have lenTH := nm_len hopH3))))))
  k_with "~TurnR" => ((k_dflt (refine' TurnR.intro ?k1_130 ?k2_130 ?k3_130 ?k4_130 ?k5_130 ?k6_130 ?_; (case k1_130 => k_asm); (case k3_130 => exact rfl); (case k4_130 => exact rfl); (case k5_130 => (intro z z1 z2 z3; repeat (first | (with_reducible exact M2_other z1 z2 z3) | (with_reducible refine ite_o ?ne_130 ?_; (case ne_130 => first | (with_reducible exact z1) | (with_reducible exact z2) | (with_reducible refine z3 _ ?zm_130; (case zm_130 => walk_at "memr"))))))); first | (rotate_left 3; (with_reducible refine' NInv.okc ?q1_130 ?q2_130 ?q3_130 ?q4_130 ?q5_130 ?q6_130 ?q7_130 ?q8_130); (case q1_130 => assumption); (case q2_130 => exact wk_free (by assumption) (by assumption)); (case q5_130 => first | exact last_no (by assumption) (by assumption) (by assumption)); (case k2_130 => (refine news_in (by k_asm) (sub4 (by k_mem) (by k_mem) (by k_mem) ?_); (intro p hp; repeat (first | exact hp | refine List.mem_cons_of_mem _ ?_)))); (case q3_130 => assumption); (case q4_130 => assumption); (case q6_130 => assumption); (case q7_130 => assumption); (case q8_130 => assumption); (case k6_130 => k_all)) | (rotate_left 3; (with_reducible refine' NInv.okf ?q1_130 ?q2_130 ?q3_130 ?q4_130 ?q5_130 ?q6_130 ?q7_130 ?q8_130 ?q9_130); (case q1_130 => assumption); (case q2_130 => exact wk_free (by assumption) (by assumption)); (case q5_130 => first | exact last_yes (by assumption) (by assumption)); (case k2_130 => (refine news_in (by k_asm) (sub4 (by k_mem) (by k_mem) (by k_mem) ?_); (intro p hp; repeat (first | exact hp | refine List.mem_cons_of_mem _ ?_)))); (case q3_130 => assumption); (case q4_130 => assumption); (case q6_130 => assumption); (case q7_130 => assumption); (case q8_130 => assumption); (case q9_130 => assumption); (case k6_130 => k_all)) | (rotate_left 3; (with_reducible refine' NInv.err ?q1_130 ?q2_130 ?q3_130 ?q4_130 ?q5_130 ?q6_130 ?q7_130 ?q8_130); (case q1_130 => assumption); (case q2_130 => exact wk_word (by assumption)); (case q4_130 => first | exact Or.inl ⟨last_no (by assumption) (by assumption) (by assumption), Or.inl rfl⟩ | exact Or.inl ⟨last_no (by assumption) (by assumption) (by assumption), Or.inr rfl⟩ | exact Or.inr ⟨last_yes (by assumption) (by assumption), rfl⟩); (case k2_130 => (refine news_in (by k_asm) (sub5 (by k_mem) (by k_mem) (by k_mem) (by k_mem) ?_); (intro p hp; repeat (first | exact hp | refine List.mem_cons_of_mem _ ?_)))); (case q3_130 => assumption); (case q5_130 => assumption); (case q6_130 => assumption); (case q7_130 => assumption); (case q8_130 => assumption); (case k6_130 => k_all)) | (rotate_left 3; (with_reducible refine' NInv.bad ?q1_130 ?q2_130 ?q3_130 ?q4_130 ?q5_130 ?q6_130 ?q7_130 ?q8_130 ?q9_130); (case q1_130 => assumption); (case q2_130 => exact wk_bad (by assumption) (by assumption)); (case q4_130 => first | exact Or.inl ⟨last_no (by assumption) (by assumption) (by assumption), Or.inl rfl⟩ | exact Or.inl ⟨last_no (by assumption) (by assumption) (by assumption), Or.inr rfl⟩ | exact Or.inr ⟨last_yes (by assumption) (by assumption), rfl⟩); (case k2_130 => (refine news_in (by k_asm) (sub5 (by k_mem) (by k_mem) (by k_mem) (by k_mem) ?_); (intro p hp; repeat (first | exact hp | refine List.mem_cons_of_mem _ ?_)))); (case q6_130 => first | exact rfl | (simp only [PySem.Str.length_append]; done) | (have lX := l_sp; (try simp only [PySem.Str.length_append]); (try push_cast); omega)); (case q3_130 => assumption); (case q5_130 => assumption); (case q7_130 => assumption); (case q8_130 => assumption); (case q9_130 => assumption); (case k6_130 => k_all)) | (rotate_left 3; (with_reducible refine' NInv.okb ?q1_130 ?q2_130 ?q3_130 ?q4_130 ?q5_130 ?q6_130 ?q7_130 ?q8_130); (case q1_130 => assumption); (case q2_130 => exact wk_free (by assumption) (by assumption)); (case q4_130 => first | exact last_no (by assumption) (by assumption) (by assumption)); (case k2_130 => (refine news_in (by k_asm) (sub5 (by k_mem) (by k_mem) (by k_mem) (by k_mem) ?_); (intro p hp; repeat (first | exact hp | refine List.mem_cons_of_mem _ ?_)))); (case q5_130 => first | exact rfl | (simp only [PySem.Str.length_append]; done) | (have lX := l_sp; (try simp only [PySem.Str.length_append]); (try push_cast); omega)); (case q3_130 => assumption); (case q6_130 => assumption); (case q7_130 => assumption); (case q8_130 => assumption); (case k6_130 => k_all)))))
  k_with "~call ref" => ((k_here; (with_reducible show wpAny _ _ (call (Value.ref 445) _) _ _ _); k_dflt (refine' nml_ok ?k1_131 ?k2_131 ?k3_131 ?k4_131 ?k5_131 ?k6_131 ?k7_131 ?k8_131 ?k9_131 ?k10_131 ?k11_131 ?k12_131 ?_; (case k1_131 => k_asm); (case k2_131 => k_asm); (case k3_131 => k_asm); (case k4_131 => k_asm); (case k5_131 => k_asm); (case k6_131 => first | exact rfl | assumption); (case k7_131 => assumption); (case k8_131 => assumption); (case k9_131 => assumption); (case k10_131 => first | assumption | exact nm_lit); (case k11_131 => k_room); (case k12_131 => first | walk_at "room" | ((try simp only [units_under_make, units_in1, units_deeper, Around.mark_units, units_caller]); (try dsimp only [ktrTop]); first | walk_at "room" | omega)); k_whole; intro gL tupL valsL nL exL hL tkL T' F' N' dL kL B' X' P' D'; (try k_lift B'); (try k_sweep); (try dsimp only))))
  k_with "~compareOp Eq ref ref" => ((k_here; (with_reducible show wpAny _ _ (compareOp CmpOp.Eq (Value.ref _) (Value.ref _)) _ _ _); k_dflt (refine' eqtup_ctx ?k1_132 ?k2_132 ?k3_132 ?k4_132 ?k5_132 ?k6_132 ?k7_132 ?k8_132 ?_; (case k1_132 => k_asm); (case k2_132 => k_mem); (case k3_132 => k_mem); (case k4_132 => (refine' DatAll.mono ?dm_132 ?dd_132; (case dd_132 => assumption); (case dm_132 => (intro p hp; first | exact List.mem_cons_of_mem _ (List.mem_append_left _ hp) | exact List.mem_cons_of_mem _ (List.mem_cons_of_mem _ (List.mem_append_left _ hp)))))); (case k5_132 => first | exact DatAll.cons (DatIn.str _ _) (DatAll.cons (DatIn.str _ _) (DatAll.cons (DatIn.int _ _) DatAll.nil)) | exact DatAll.cons (dat_list (by k_mem) (by assumption)) (DatAll.cons (DatIn.int _ _) DatAll.nil)); (case k6_132 => assumption); (case k7_132 => first | walk_at "room" | ((try simp only [units_under_make, units_in1, units_deeper, Around.mark_units, units_caller]); (try dsimp only [ktrTop]); walk_at "room") | ke_room | omega | ((try simp only [units_under_make, units_in1, units_deeper, Around.mark_units, units_caller]); (try dsimp only [ktrTop]); omega)); (case k8_132 => exact rfl); k_whole)))
  k_with "~eval IfExp" => ((k_here; (with_reducible show wpAny _ _ (eval (Expr.IfExp _ _ (Expr.Name (PySem.Str.ofString "name") _) _) _) _ _ _); (with_reducible rename WordK _ _ _ _ => wkX); k_dflt (refine' join_word wkX ?k1_133 (fun tJ kJ => ?_); (case k1_133 => (cases wkX; all_goals (k_steps; all_goals exact ⟨_, _, rfl, rfl⟩))); (try dsimp only))))
  trivial
theorem sub2n {a : Addr × Obj} {l r : List (Addr × Obj)} (ha : a ∈ l) (hr : ∀ p ∈ r, p ∈ l) : ∀ p ∈ a :: r, p ∈ l := by
  intro p hp
  rcases List.mem_cons.mp hp with rfl | hp
  · exact ha
  · exact hr p hp
set_option maxHeartbeats 8000000 in
theorem nright_ok {src : Addr} {x y : Int} {tx ty : Tok} {n : Nat}
  (B : Below A₀ base [] h₀) (F : Fr h₀ L s.heap m) (X : (Mine.K1 w.params).In h₀) (N : News h₀ L s.heap ((src, listOf #[.int x tx, .int y ty] n) :: rest)) (T : Top p loose mean mg mb h₀) (hk : cs.kind = .function)
  (XB : (Mine.K1 w.params).In base) (TB : Top p loose mean mg mb base)
  (hr : ∀ p ∈ rest, p.1 ≠ src) (hx : 0 ≤ x) (hy0 : 0 ≤ y) (hy : y < 2147483647) (hd : dp + 200 < recursionLimit) (hu : un + 400 < cLine)
  (hret : ∀ x' y' tx' ty' n' h' tk', Fr h₀ L h' m → News h₀ L h' ((src, listOf #[.int x' tx', .int y' ty'] n') :: rest) → 0 ≤ x' → 0 ≤ y' → y' < 2147483647 → Q (.bool true) { s with heap := h', toks := tk' }) :
  wpAny (model prog w) (ktrTop dp un gd cn cs L a ccd [] []) (call (.ref 487) [.ref src]) Q E s := by
  refine wpAny_call ?_
  k_dflt (walk_at "k_ent0")
  k_steps
  all_goals try (refine' hret _ _ _ _ _ _ _ (by k_asm) ?nw ?h1 ?h2 ?h3; (case nw => (refine news_in (by k_asm) (sub2n (by k_mem) ?_); (intro p hp; repeat (first | exact hp | refine List.mem_cons_of_mem _ ?_ | refine List.mem_append_right _ ?_)))); (case h1 => assumption); (case h2 => assumption); (case h3 => assumption))
  all_goals try (walk_at "TurnR")
end
section
open PySem PySem.W PySem.Calls PyProof.Rows
theorem strs1_ok {a : Str} {q : Int} (h : PyData.strOk a = true) : ∀ d ∈ ([.str a, .int q] : List Dat), kqdOk 8 d = true := by
  intro d hd
  simp only [List.mem_cons, List.not_mem_nil, or_false] at hd
  rcases hd with rfl | rfl
  · exact h
  · rfl
theorem lit1 : RdOk (Str.ofString "dec(8,-2)") [.str (Str.ofString "dec(8,-2)"), .int 9] := by
  refine ⟨by decide +kernel, strs1_ok (by decide +kernel), [pwAt 0 (nmW "DEC" "dec"), pwAt 3 (sgG "("), pwAt 4 (nuG 8), pwAt 5 (sgG ","), pwAt 6 (sgG "-"), pwAt 7 (nuG 2), pwAt 8 (sgG ")")], [Str.ofString "dec"], 1, .told (Str.ofString "dec(8,-2)") 7, 9, scan_cpl ?_, by simp, ?_, ?_, by decide +kernel, by decide +kernel, ?_, ?_, rfl⟩
  · rw [show cpl (Str.ofString "dec(8,-2)") = [100, 101, 99, 40, 56, 44, 45, 50, 41] by decide +kernel]
    exact ScanL.word (n := 3) (by kernel_rfl) rfl (sl_one (by kernel_rfl) (sl_one (by kernel_rfl) (sl_one (by kernel_rfl) (sl_one (by kernel_rfl) (sl_one (by kernel_rfl) (sl_one (by kernel_rfl) ScanL.fin))))))
  · exact .more (g := pwAt 0 (nmW "DEC" "dec")) rfl (by kernel_rfl) rfl (.stop (g := pwAt 3 (sgG "(")) rfl (by kernel_rfl))
  · intro v hv; rw [List.mem_singleton.mp hv]; decide +kernel
  · have h1 : SizeT ([pwAt 0 (nmW "DEC" "dec"), pwAt 3 (sgG "(")] ++ pwAt 4 (nuG 8) :: [pwAt 5 (sgG ","), pwAt 6 (sgG "-"), pwAt 7 (nuG 2), pwAt 8 (sgG ")"), endW (Str.ofString "dec(8,-2)")]) 2 (Str.ofString "" ++ Str.ofString (toString (8 : Int))) 3 := size0 rfl rfl (by decide) (by decide) (by kernel_rfl) (by kernel_rfl)
    have h2 : SizeT ([pwAt 0 (nmW "DEC" "dec"), pwAt 3 (sgG "("), pwAt 4 (nuG 8), pwAt 5 (sgG ",")] ++ pwAt 6 (sgG "-") :: pwAt 7 (nuG 2) :: [pwAt 8 (sgG ")"), endW (Str.ofString "dec(8,-2)")]) 4 (Str.ofString "-" ++ Str.ofString (toString (2 : Int))) 6 := size1 rfl rfl (by decide) (by decide) (.inl ⟨by kernel_rfl, rfl⟩)
    have := TypeT.two (ws := [pwAt 0 (nmW "DEC" "dec"), pwAt 3 (sgG "("), pwAt 4 (nuG 8), pwAt 5 (sgG ","), pwAt 6 (sgG "-"), pwAt 7 (nuG 2), pwAt 8 (sgG ")"), endW (Str.ofString "dec(8,-2)")]) (vs := [Str.ofString "dec"]) (j := 1) (by kernel_rfl) (g := pwAt 3 (sgG "(")) rfl (by kernel_rfl) h1 (by decide +kernel) (c := pwAt 5 (sgG ",")) rfl (by kernel_rfl) h2 (by decide +kernel) (d := pwAt 8 (sgG ")")) rfl (by kernel_rfl)
    rw [show Txt.join (ot " ") [Str.ofString "dec"] ++ ot "(" ++ (Str.ofString "" ++ Str.ofString (toString (8 : Int))) ++ ot "," ++ (Str.ofString "-" ++ Str.ofString (toString (2 : Int))) ++ ot ")" = Str.ofString "dec(8,-2)" by decide +kernel] at this
    exact this
  · intro k hk
    rcases hk with hk | ⟨_, hk⟩
    · cases hk
    · injection hk with _ hk; subst hk
      exact ⟨endW (Str.ofString "dec(8,-2)"), rfl, by show ((Str.ofString "dec(8,-2)").length : Int) = 9; decide +kernel⟩
theorem lit2 : RdOk (Str.ofString "t(-+1)") [.str (Str.ofString "refused"), .str (Str.ofString "a number is missing"), .int 3] := by
  refine ⟨by decide +kernel, ref_ok (by decide +kernel), [pwAt 0 (nmW "T" "t"), pwAt 1 (sgG "("), pwAt 2 (sgG "-"), pwAt 3 (sgG "+"), pwAt 4 (nuG 1), pwAt 5 (sgG ")")], [Str.ofString "t"], 1, .err (Str.ofString "a number is missing") 3, 0, scan_cpl ?_, by simp, ?_, ?_, by decide +kernel, by decide +kernel, ?_, ?_, rfl⟩
  · rw [show cpl (Str.ofString "t(-+1)") = [116, 40, 45, 43, 49, 41] by decide +kernel]
    exact ScanL.word (n := 1) (by kernel_rfl) rfl (sl_one (by kernel_rfl) (sl_one (by kernel_rfl) (sl_one (by kernel_rfl) (sl_one (by kernel_rfl) (sl_one (by kernel_rfl) ScanL.fin)))))
  · exact .more (g := pwAt 0 (nmW "T" "t")) rfl (by kernel_rfl) rfl (.stop (g := pwAt 1 (sgG "(")) rfl (by kernel_rfl))
  · intro v hv; rw [List.mem_singleton.mp hv]; decide +kernel
  · have h1 : NoSize ([pwAt 0 (nmW "T" "t"), pwAt 1 (sgG "(")] ++ pwAt 2 (sgG "-") :: pwAt 3 (sgG "+") :: [pwAt 4 (nuG 1), pwAt 5 (sgG ")"), endW (Str.ofString "t(-+1)")]) 2 3 := nosize1 (f := pwAt 3 (sgG "+")) (ne_num (by kernel_rfl)) (.inl (by kernel_rfl))
    exact TypeT.noNum (j := 1) (by kernel_rfl) (g := pwAt 1 (sgG "(")) rfl (by kernel_rfl) h1
  · intro k hk; rcases hk with hk | ⟨_, hk⟩ <;> cases hk
theorem lit3 : RdOk (Str.ofString "q(1,2,3)") [.str (Str.ofString "refused"), .str (Str.ofString ") is missing"), .int 5] := by
  refine ⟨by decide +kernel, ref_ok (by decide +kernel), [pwAt 0 (nmW "Q" "q"), pwAt 1 (sgG "("), pwAt 2 (nuG 1), pwAt 3 (sgG ","), pwAt 4 (nuG 2), pwAt 5 (sgG ","), pwAt 6 (nuG 3), pwAt 7 (sgG ")")], [Str.ofString "q"], 1, .err (Str.ofString ") is missing") 5, 0, scan_cpl ?_, by simp, ?_, ?_, by decide +kernel, by decide +kernel, ?_, ?_, rfl⟩
  · rw [show cpl (Str.ofString "q(1,2,3)") = [113, 40, 49, 44, 50, 44, 51, 41] by decide +kernel]
    exact ScanL.word (n := 1) (by kernel_rfl) rfl (sl_one (by kernel_rfl) (sl_one (by kernel_rfl) (sl_one (by kernel_rfl) (sl_one (by kernel_rfl) (sl_one (by kernel_rfl) (sl_one (by kernel_rfl) (sl_one (by kernel_rfl) ScanL.fin)))))))
  · exact .more (g := pwAt 0 (nmW "Q" "q")) rfl (by kernel_rfl) rfl (.stop (g := pwAt 1 (sgG "(")) rfl (by kernel_rfl))
  · intro v hv; rw [List.mem_singleton.mp hv]; decide +kernel
  · have h1 : SizeT ([pwAt 0 (nmW "Q" "q"), pwAt 1 (sgG "(")] ++ pwAt 2 (nuG 1) :: [pwAt 3 (sgG ","), pwAt 4 (nuG 2), pwAt 5 (sgG ","), pwAt 6 (nuG 3), pwAt 7 (sgG ")"), endW (Str.ofString "q(1,2,3)")]) 2 (Str.ofString "" ++ Str.ofString (toString (1 : Int))) 3 := size0 rfl rfl (by decide) (by decide) (by kernel_rfl) (by kernel_rfl)
    have h2 : SizeT ([pwAt 0 (nmW "Q" "q"), pwAt 1 (sgG "("), pwAt 2 (nuG 1), pwAt 3 (sgG ",")] ++ pwAt 4 (nuG 2) :: [pwAt 5 (sgG ","), pwAt 6 (nuG 3), pwAt 7 (sgG ")"), endW (Str.ofString "q(1,2,3)")]) 4 (Str.ofString "" ++ Str.ofString (toString (2 : Int))) 5 := size0 rfl rfl (by decide) (by decide) (by kernel_rfl) (by kernel_rfl)
    have := TypeT.noClose2 (ws := [pwAt 0 (nmW "Q" "q"), pwAt 1 (sgG "("), pwAt 2 (nuG 1), pwAt 3 (sgG ","), pwAt 4 (nuG 2), pwAt 5 (sgG ","), pwAt 6 (nuG 3), pwAt 7 (sgG ")"), endW (Str.ofString "q(1,2,3)")]) (vs := [Str.ofString "q"]) (j := 1) (by kernel_rfl) (g := pwAt 1 (sgG "(")) rfl (by kernel_rfl) h1 (by decide +kernel) (c := pwAt 3 (sgG ",")) rfl (by kernel_rfl) h2 (by decide +kernel) (d := pwAt 5 (sgG ",")) rfl (by kernel_rfl)
    rw [show ot ")" ++ ot " is missing" = Str.ofString ") is missing" by decide +kernel] at this
    exact this
  · intro k hk; rcases hk with hk | ⟨_, hk⟩ <;> cases hk
theorem lit4 : NmOk (Str.ofString "(a,)") [.str (Str.ofString "refused"), .str (Str.ofString "a name is missing"), .int 3] := by
  refine ⟨by decide +kernel, ref_ok (by decide +kernel), [pwAt 0 (sgG "("), pwAt 1 (nmW "A" "a"), pwAt 2 (sgG ","), pwAt 3 (sgG ")")], .err (Str.ofString "a name is missing") 3, 0, scan_cpl ?_, by simp, ?_, (fun vs k hk => by cases hk), rfl⟩
  · rw [show cpl (Str.ofString "(a,)") = [40, 97, 44, 41] by decide +kernel]
    exact sl_one (by kernel_rfl) (sl_one (by kernel_rfl) (sl_one (by kernel_rfl) (sl_one (by kernel_rfl) ScanL.fin)))
  · exact names_bad (g := pwAt 0 (sgG "(")) rfl (by kernel_rfl) (.inr ⟨pwAt 1 (nmW "A" "a"), Str.ofString "a", .bad 3, rfl, by kernel_rfl, rfl, NRun.bad (g := pwAt 2 (sgG ",")) (f := pwAt 3 (sgG ")")) rfl (by kernel_rfl) rfl (by kernel_rfl), rfl⟩)
theorem lit5 : NmOk (Str.ofString "(a") [.str (Str.ofString "refused"), .str (Str.ofString ") is missing"), .int 2] := by
  refine ⟨by decide +kernel, ref_ok (by decide +kernel), [pwAt 0 (sgG "("), pwAt 1 (nmW "A" "a")], .err (Str.ofString ") is missing") 2, 0, scan_cpl ?_, by simp, ?_, (fun vs k hk => by cases hk), rfl⟩
  · rw [show cpl (Str.ofString "(a") = [40, 97] by decide +kernel]
    exact sl_one (by kernel_rfl) (sl_one (by kernel_rfl) ScanL.fin)
  · refine names_fin (g := pwAt 0 (sgG "(")) (c := endW (Str.ofString "(a")) (vs := [Str.ofString "a"]) (j := 2) rfl (by kernel_rfl) (.inr ⟨pwAt 1 (nmW "A" "a"), Str.ofString "a", .fin [] 2, rfl, by kernel_rfl, rfl, NRun.stop (g := endW (Str.ofString "(a")) rfl (by kernel_rfl), rfl⟩) rfl (.inr ⟨by kernel_rfl, ?_⟩)
    rw [show Str.ofString ")" ++ Str.ofString " is missing" = Str.ofString ") is missing" by decide +kernel, show (endW (Str.ofString "(a")).pl = 2 by decide +kernel]
end
section
open PySem PySem.W PySem.Calls PyProof.Rows
section
variable {prog : Program} {w : World} {A : Around} {E : Value → Shared → Prop} {s : Shared} {env : Env} {h₀ : Heap} {x : Str} {body : List Stmt} {Q : Flow → Shared → Prop}
theorem law_loop {r : Addr} {b : Int} {t₀ u₀ v₀ : Tok} {m₀ : Str → Option Value} {news : List (Addr × Obj)} (stored : List Str)
    (hh : A.handled = none) (hr : IsRange s.heap r 0 b 1 t₀ u₀ v₀) (hb0 : 0 ≤ b) (hb1 : b < 4) (F : Fr h₀ env.locals s.heap m₀) (N : News h₀ env.locals s.heap news)
    (turn : ∀ k t (u : Str → Option Value) h tk o, (∀ p ∈ news, p.1 < s.heap.objs.size) → 0 ≤ k → k < 4 → Fr h₀ env.locals h (fun y => if y = x then some (.int k t) else if stored.contains y then u y else m₀ y) → News h₀ env.locals h ((s.heap.objs.size, o) :: news) →
      wpAny (model prog w) A (execs body env) (TurnPost h₀ env.locals x stored m₀ ((s.heap.objs.size, o) :: news) { s with heap := h, toks := tk } Q) E { s with heap := h, toks := tk })
    (done : ∀ (u : Str → Option Value) h tk, Fr h₀ env.locals h (fun y => if y = x then u y else if stored.contains y then u y else m₀ y) → News h₀ env.locals h news → Q .next { s with heap := h, toks := tk }) :
    wpAny (model prog w) A (pyIter (.ref r)) (fun it s₂ => LoopAtV prog w A h₀ env x body Q E it s₂) E s := by
  obtain ⟨n, rfl⟩ := Int.eq_ofNat_of_zero_le hb0
  have hn : n < 4 := by omega
  have hs := small4 hn
  refine iter_rangeLawO stored hh hr hs.1 hs.2 F N (fun k t u h tk o hl h0 h1 F' N' => turn k t u h tk o hl h0 (by omega) F' N') done
end
end
section
open PySem PySem.W PySem.Calls PyProof.Rows
section
variable {prog : Program} {w : World} {A : Around} {E : Value → Shared → Prop} {s : Shared} {h₀ : Heap} {L a b : Addr} {na nb : Nat} {news : List (Addr × Obj)} {xs ys : List Value} {ds es : List Dat} {Q : Value → Shared → Prop}
theorem news_none {h₀ h : Heap} {L : Addr} {l : List (Addr × Obj)} (_ : News h₀ L h l) : News h₀ L h [] := fun _ hp => nomatch hp
theorem netup_ctx (N : News h₀ L s.heap news) (ma : (a, tupD xs na) ∈ news) (mb : (b, tupD ys nb) ∈ news) (Da : DatAll news xs ds) (Db : DatAll news ys es) (hk : ∀ d ∈ ds, kqdOk 8 d = true) (hu : A.units + 64 < cLine) (he : ds = es) (h : Q (.bool false) s) : wpAny (model prog w) A (compareOp .NotEq (.ref a) (.ref b)) Q E s := by
  subst he
  obtain ⟨as, ra⟩ := kqd_all N 8 Da hk
  obtain ⟨bs, rb⟩ := kqd_all N 8 Db hk
  have la := kqd_lay 9 (.tuple ds) (by simpa [kqdOk] using hk)
  rw [kqdP] at la
  have sh : PySem.SeqAt.shaped (.tuple (kqdPs ds)) = true := by
    unfold PySem.SeqAt.shaped; rw [la.1, Bool.true_and]; exact decide_eq_true (Nat.le_trans la.2 (by decide))
  have e : PyData.eqv (.tuple (kqdPs ds)) (.tuple (kqdPs ds)) = true := by
    have q := kqd_eqv 9 (.tuple ds) (.tuple ds) 9 (by simpa [kqdOk] using hk) (by simpa [kqdOk] using hk)
    rw [kqdP] at q
    exact q.mpr rfl
  exact ne_dataH (reads_tuple_at (N.get ma) rfl rfl (by simpa using ra)) (reads_tuple_at (N.get mb) rfl rfl (by simpa using rb)) sh sh hu (by rw [e]; exact h)
end
theorem len_ground {prog : Program} {w : World} {A : Around} {E : Value → Shared → Prop} {s : Shared} {h₀ : Heap} {L a : Addr} {m : Str → Option Value} {vs : List Value} {ns : List Int} {Q : Value → Shared → Prop} (F : Fr h₀ L s.heap m) (hl : h₀.IsList a vs.toArray) (hI : IntsAre vs ns) (hb : ¬ ((63 : Nat) : Int) < (ns.length : Int)) (h : Q (.int (ns.length : Int) (s.toks + 1)) { s with toks := s.toks + 1 + 1 }) : wpAny (model prog w) A (call (.builtin "len") [.ref a]) Q E s := by
  have e : vs.toArray.size = ns.length := by simp [hI.length]
  refine len_list (hl.at fun o e => F.keep a o e) (by rw [e]; omega) ?_
  rw [e]; exact h
theorem pool_x (x : Int) (b : Bool) (h : 0 ≤ x) : 0 ≤ x * (if b then 1 else 0) := by cases b <;> simp <;> omega
end
section
variable {prog : Program} {w : World} {p : Program} {loose : List Str} {mean : ExcName → Option Value} {mg mb : Str → Option Value}
  {dp un : Nat} {gd : Option (List Code)} {cn : Str} {cs : Scope} {a : Addr} {ccd : Value} {cl : List (Str × Addr)} {outer : List Env} {A₀ : Around} {base h₀ : Heap} {L : Addr} {m : Str → Option Value} {s : Shared}
  {Q E : Value → Shared → Prop} {rest : List (Addr × Obj)}
theorem kw_Po : True := by
  w_top off
  k_with_none
  k_with "~k_all" => (first | with_reducible assumption | exact ne_of_allLt (by with_reducible assumption) | assumption | exact ne_of_allLt (by assumption))
  k_with "~memr" => (first | (with_reducible exact List.mem_cons_self ..) | ((with_reducible refine List.mem_cons_of_mem _ ?_); walk_at "memr") | (with_reducible assumption) | ((with_reducible refine List.mem_append_left _ ?_); walk_at "memr") | ((with_reducible refine List.mem_append_right _ ?_); walk_at "memr"))
  k_with "~memd" => (first | exact List.mem_cons_self .. | (refine List.mem_cons_of_mem _ ?_; walk_at "memd") | (refine List.mem_append.mpr (Or.inl ?_); walk_at "memd") | (refine List.mem_append.mpr (Or.inr ?_); walk_at "memd") | assumption)
  k_with "~k_mem" => (first | walk_at "memr" | walk_at "memd")
  k_with "~k_in" => (first | with_reducible assumption | exact Frag.In.keeps (by with_reducible assumption) (Fr.keep (by with_reducible assumption)))
  k_with "~k_room" => (((try simp only [depth_under_make, depth_under_kw, depth_in1, depth_deeper, depth_caller]); (try dsimp only [ktrTop]); first | walk_at "room" | omega))
  k_with "~mul_fits" => (k_dflt (exact mulOk_fmod _ _))
  k_with "~exec Raise some none" => ((k_here; (with_reducible show wpAny _ _ (exec (Stmt.Raise (some (Expr.Call (Expr.Name (Str.ofString "ParseError") _) _ _ _)) none _) _) _ _ _); refine Raise_E rfl ?_))
  k_with "~RaiseBack" => ((k_dflt (refine' RaiseBack.intro ?k1_8 ?k2_8 ?k3_8 ?k4_8 ?k5_8 ?_; (case k1_8 => k_asm); (case k2_8 => k_asm); (case k3_8 => k_asm); (case k4_8 => k_is); (case k5_8 => k_mem))))
  k_with "~call ref" => ((k_here; (with_reducible show wpAny _ _ (call (Value.ref 91) _ _) _ _ _); k_dflt (refine' call_excE ?k1_9 ?k2_9 ?k3_9 ?k4_9 ?k5_9 ?k6_9 ?k7_9 ?k8_9 ?k9_9 ?_; (case k1_9 => k_asm); (case k2_9 => k_asm); (case k3_9 => k_asm); (case k4_9 => k_is); (case k5_9 => k_is); (case k6_9 => k_is); (case k7_9 => k_is); (case k8_9 => k_is); (case k9_9 => size_fits); k_whole; intro e' t' h' F' N' l1 l2 l3; (try k_lt l1); (try k_lt2 l2); (try k_lt l3); (try k_sweep); (try dsimp only); k_enter)))
  k_with "~instx" => (first | (refine' inst_exc ?N_10 ?h1_10 ?h2_10; (case N_10 => with_reducible assumption); (case h1_10 => walk_at "memr"); (case h2_10 => walk_at "memr")) | (refine' inst_exc2 ?N_10 ?h1_10 ?hc_10 ?hd_10 ?hn_10 ?h2_10; (case hc_10 => with_reducible assumption); (case hd_10 => with_reducible assumption); (case hn_10 => with_reducible assumption); (case N_10 => with_reducible assumption); (case h1_10 => walk_at "memr"); (case h2_10 => walk_at "memr")))
  k_with "~instn" => ((refine' InstAt.of_news ?N_11 ?h1_11 ?h2_11; (case N_11 => with_reducible assumption); (case h1_11 => walk_at "memr"); (case h2_11 => walk_at "memr")))
  k_with "~k_inst" => (first | walk_at "instn" | walk_at "instx")
  k_with "~setAttr ref" => ((k_here; k_dflt (first | (refine' setE_new ?k1_13 ?k2_13 ?k3_13 ?k4_13 ?k5_13 ?k6_13 ?k6b_13 ?k7_13 ?k8_13 ?k9_13 ?k10_13 ?_; (case k1_13 => k_asm); (case k2_13 => k_asm); (case k3_13 => k_asm); (case k4_13 => k_all); (case k5_13 => k_is); (case k6_13 => k_is); (case k6b_13 => exact rfl); (case k7_13 => k_is); (case k8_13 => k_is); (case k9_13 => k_put); (case k10_13 => exact Nat.le_of_ble_eq_true rfl); k_whole; intro h' dx' F' N' l1 l2; (try k_lt l1); (try k_lt2 l2); (try k_sweep); (try dsimp only)) | (refine' setE_old ?k1_13 ?k2_13 ?k3_13 ?k4_13 ?k5_13 ?k6_13 ?k7_13 ?k7b_13 ?k8_13 ?k9_13 ?k10_13 ?k11_13 ?k12_13 ?k13_13 ?_; (case k1_13 => k_asm); (case k2_13 => k_asm); (case k3_13 => k_asm); (case k4_13 => walk_at "instx"); (case k5_13 => exact rfl); (case k6_13 => k_is); (case k7_13 => k_is); (case k7b_13 => exact rfl); (case k8_13 => k_is); (case k9_13 => k_is); (case k10_13 => k_get); (case k11_13 => k_put); (case k12_13 => k_upd); (case k13_13 => exact Nat.le_of_ble_eq_true rfl); k_whole; intro h' F' N'; (try k_sweep); (try dsimp only)))))
  k_with "~getAttr ref" => ((k_here; k_dflt (refine' getE ?k1_14 ?k2_14 ?k3_14 ?k4_14 ?k5_14 ?k6_14 ?k7_14 ?k8_14 ?k9_14 ?k10_14 ?_; (case k1_14 => k_asm); (case k2_14 => k_asm); (case k3_14 => walk_at "instx"); (case k4_14 => k_is); (case k5_14 => k_is); (case k6_14 => k_is); (case k7_14 => k_is); (case k8_14 => k_is); (case k9_14 => k_get); (case k10_14 => k_handed); k_whole)))
  k_with "~getAttr ref" => ((k_here; k_dflt (refine' get_own ?k1_15 ?k2_15 ?k3_15 ?k4_15 ?k5_15 ?k6_15 ?k7_15 ?k8_15 ?k9_15 ?_; (case k1_15 => k_asm); (case k2_15 => k_asm); (case k3_15 => walk_at "instn"); (case k4_15 => k_is); (case k5_15 => k_is); (case k6_15 => k_is); (case k7_15 => k_is); (case k8_15 => k_get); (case k9_15 => k_handed); k_whole)))
  k_with "~leaving ref" => ((k_here; k_dflt (first | (refine' leave_raiseD2 ?k1_16 ?k2_16 ?k3_16 ?k4_16 ?_; (case k1_16 => k_asm); (case k2_16 => k_asm); (case k3_16 => k_asm); (case k4_16 => k_all); k_whole; intro h' R' U'; (try dsimp only at R' U' ⊢)) | (refine' leave_onD ?k1_16 ?k2_16 ?k3_16 ?k4_16 ?_; (case k3_16 => k_asm); (case k2_16 => k_asm); (case k1_16 => k_asm); (case k4_16 => k_asm); k_whole; intro h' R' U'; (try dsimp only at R' U' ⊢)))))
  k_with "~subscriptTail Attribute Name Attribute ref int" => ((k_here; (with_reducible show wpAny _ _ (subscriptTail _ _ (Value.ref _) (Value.int _ _)) _ _ _); k_dflt (refine' item_ctx ?k1_17 ?k2_17 ?k3_17 ?k4_17 ?k5_17 ?_ ?k6_17; (case k1_17 => k_asm); (case k2_17 => k_mem); (case k3_17 => omega); (case k4_17 => omega); (case k5_17 => k_asm); (case k6_17 => with_unfolding_all rfl); k_whole)))
  k_with "~compareOp Eq str str" => ((k_here; k_dflt (refine eq_ctx (by k_asm) ?_)))
  k_with "~compareOp NotEq str str" => ((k_here; k_dflt (refine ne_ctx (by k_asm) ?_)))
  k_with "~call type:str" => ((k_here; (with_reducible show wpAny _ _ (call (Value.type "str") [Value.int _ _]) _ _ _); k_dflt (refine PySem.P.str_of_int (log_small (by k_asm) (by k_asm)) ?_)))
  k_with "~compareOp NotIn str ref" => ((k_here; k_dflt (first | refine resv_notin (by k_asm) (by k_asm) (by k_asm) ?_ | refine joinw_notin (by k_asm) (by k_asm) (by k_asm) ?_)))
  k_with "~compareOp In str ref" => ((k_here; k_dflt (refine sgn2_in (by k_asm) (by k_asm) (by k_asm) ?_)))
  k_with "~size_fits" => (exact size1000 (by k_asm))
  k_with "~subscriptTail Attribute Name Attribute str int" => ((k_here; (with_reducible show wpAny _ _ (subscriptTail _ _ (Value.str _ _) (Value.int _ _)) _ _ _); k_dflt (refine item_sctx (by k_asm) (by k_asm) ?_)))
  k_with "~compareOp In str str" => ((k_here; k_dflt (refine in_sctx (by k_asm) ?_)))
  k_with "~call builtin:ord" => ((k_here; (with_reducible show wpAny _ _ (call (Value.builtin "ord") [Value.str ⟨#[_]⟩ _]) _ _ _); refine ord_sctx ?_))
  k_with "~TurnI" => ((k_dflt (refine' TurnI.intro ?k1_27 ?k2_27 ?k3_27 ?k4_27; (case k1_27 => k_asm); (case k2_27 => k_asm); (case k3_27 => exact rfl); (case k4_27 => (intro z hz; simp [hz])))))
  k_with "~call builtin:str.isascii" => ((k_here; refine isascii_ctx (by k_asm) ?_))
  k_with "~subscriptTail Name Name str int" => ((k_here; k_dflt (refine item_sctx (by k_asm) (by k_asm) ?_)))
  k_with "~subscriptTail Attribute Name Slice str ref" => ((walk_at "last subscriptTail"))
  k_with "~storeName" => ((k_here; k_dflt (refine' storeX_L ?F_31 ?N_31 ?_ ?a_31 ?b_31; (case F_31 => k_asm); (case N_31 => k_asm); (case a_31 => rfl); (case b_31 => rfl); k_whole; intro h' F' N'; (try k_sweep); (try dsimp only))))
  k_with "~execs cons" => ((k_here; k_fold))
  k_with "~room" => (first | exact room1 (by with_reducible assumption) (Nat.le_of_ble_eq_true rfl) | exact room0 (by with_reducible assumption) (Nat.le_of_ble_eq_true rfl) | exact room2 (by with_reducible assumption) (Nat.le_of_ble_eq_true rfl))
  k_with "~ltc" => (first | (with_reducible assumption) | (with_reducible exact And.left (by with_reducible assumption)) | (with_reducible exact And.left (And.right (by with_reducible assumption))) | (with_reducible exact And.left (And.right (And.right (by with_reducible assumption)))) | (with_reducible exact And.left (And.right (And.right (And.right (by with_reducible assumption))))) | (with_reducible exact And.left (And.right (And.right (And.right (And.right (by with_reducible assumption)))))) | (with_reducible exact And.left (And.right (And.right (And.right (And.right (And.right (by with_reducible assumption))))))) | (with_reducible exact And.left (And.right (And.right (And.right (And.right (And.right (And.right (by with_reducible assumption)))))))) | (with_reducible exact (And.right (by with_reducible assumption))) | (with_reducible exact (And.right (And.right (by with_reducible assumption)))))
  k_with "~k_ne" => (((refine neN ?_); (try dsimp only); first | (with_reducible exact Nat.ne_of_lt (by walk_at "ltc")) | (with_reducible exact Nat.ne_of_gt (by walk_at "ltc"))))
  trivial
theorem kw_Po6 : True := by
  k_with "~k_ent0" => ((refine' code_defS0 ?k1_114 ?k2_114 ?k3_114 ?k4_114 ?k5_114 ?kA_114 ?k6_114 ?k7_114 ?k8_114 ?k9_114 ?kB_114 ?_ ?cK_114 ?c2_114 ?c3_114 ?c4_114 ?c5_114; (case kA_114 => exact rfl); (case k2_114 => k_asm); (case k1_114 => k_asm); (case k3_114 => k_asm); (case k4_114 => k_asm); (case k5_114 => k_asm); (case k6_114 => k_is); (case k7_114 => k_is); (case k8_114 => k_room); (case k9_114 => exact BindsTo.of_eq rfl); (case kB_114 => exact locs rfl); (case cK_114 => assumption); (case c2_114 => exact rfl); (case c3_114 => exact rfl); (case c4_114 => exact rfl); (case c5_114 => decide); k_whole; intro g' L' h' FG' F' N' B' X' T' D'; (try dsimp only); (try k_lift B'); (try k_fold)))
  k_with "~call builtin:len" => ((k_here; (with_reducible show wpAny _ _ (call (Value.builtin "len") [Value.ref _]) _ _ _); k_dflt (refine' len_ground ?k1_134 ?k2_134 ?k3_134 ?k4_134 ?_; (case k1_134 => k_asm); (case k2_134 => assumption); (case k3_134 => assumption); (case k4_134 => assumption); k_whole)))
  trivial
theorem pool_x2 (c : Int) {p : Prop} [Decidable p] : 0 ≤ (if -1 - c > c then -1 - c else c) * (if p then 1 else 0) := by
  by_cases h : -1 - c > c
  · rw [if_pos h]; split <;> omega
  · rw [if_neg h]; split <;> omega
set_option maxHeartbeats 8000000 in
theorem pool_ok {scr : Addr} {vs : List Value} {ns : List Int} {k : Int} {tk : Tok}
  (B : Below A₀ base [] h₀) (F : Fr h₀ L s.heap m) (X : (Mine.K1 w.params).In h₀) (N : News h₀ L s.heap rest) (T : Top p loose mean mg mb h₀) (hk : cs.kind = .function)
  (XB : (Mine.K1 w.params).In base) (TB : Top p loose mean mg mb base)
  (hl : base.IsList scr vs.toArray) (hI : IntsAre vs ns) (h63 : ¬ ((63 : Nat) : Int) < (ns.length : Int)) (hk0 : 0 ≤ k) (hk4 : k < 4) (hd : dp + 200 < recursionLimit) (hu : un + 400 < cLine)
  (hret : ∀ a x y tx ty n h' tk', Fr h₀ L h' m → News h₀ L h' ((a, listOf #[.int x tx, .int y ty] n) :: rest) → (∀ p ∈ rest, p.1 ≠ a) → 0 ≤ x → 0 ≤ y → y < 2147483647 → Q (.ref a) { s with heap := h', toks := tk' }) :
  wpAny (model prog w) (ktrTop dp un gd cn cs L a ccd [] []) (call (.ref 424) [.ref scr, .int k tk]) Q E s := by
  refine wpAny_call ?_
  k_dflt (walk_at "k_ent0")
  k_steps
  all_goals (refine' hret _ _ _ _ _ _ _ _ (by k_asm) (by k_asm) ?ko ?kx (fmod_b _ (by decide)).1 (fmod_b _ (by decide)).2; (case ko => (rename (∀ p ∈ rest, p.1 < _) => lX; intro p hp; exact Nat.ne_of_lt (lX p hp))); (case kx => exact pool_x2 _))
end
section
variable {prog : Program} {w : World} {p : Program} {loose : List Str} {mean : ExcName → Option Value} {mg mb : Str → Option Value}
  {dp un : Nat} {gd : Option (List Code)} {cn : Str} {cs : Scope} {a : Addr} {ccd : Value} {cl : List (Str × Addr)} {outer : List Env} {A₀ : Around} {base h₀ : Heap} {L : Addr} {m : Str → Option Value} {s : Shared}
  {Q E : Value → Shared → Prop} {rest : List (Addr × Obj)}
theorem kw_Fi : True := by
  w_top off
  k_with_none
  k_with "~k_all" => (first | with_reducible assumption | exact ne_of_allLt (by with_reducible assumption) | assumption | exact ne_of_allLt (by assumption))
  k_with "~memr" => (first | (with_reducible exact List.mem_cons_self ..) | ((with_reducible refine List.mem_cons_of_mem _ ?_); walk_at "memr") | (with_reducible assumption) | ((with_reducible refine List.mem_append_left _ ?_); walk_at "memr") | ((with_reducible refine List.mem_append_right _ ?_); walk_at "memr"))
  k_with "~memd" => (first | exact List.mem_cons_self .. | (refine List.mem_cons_of_mem _ ?_; walk_at "memd") | (refine List.mem_append.mpr (Or.inl ?_); walk_at "memd") | (refine List.mem_append.mpr (Or.inr ?_); walk_at "memd") | assumption)
  k_with "~k_mem" => (first | walk_at "memr" | walk_at "memd")
  k_with "~k_in" => (first | with_reducible assumption | exact Frag.In.keeps (by with_reducible assumption) (Fr.keep (by with_reducible assumption)))
  k_with "~k_room" => (((try simp only [depth_under_make, depth_under_kw, depth_in1, depth_deeper, depth_caller]); (try dsimp only [ktrTop]); first | walk_at "room" | omega))
  k_with "~mul_fits" => (k_dflt (exact mulOk_fmod _ _))
  k_with "~exec Raise some none" => ((k_here; (with_reducible show wpAny _ _ (exec (Stmt.Raise (some (Expr.Call (Expr.Name (Str.ofString "ParseError") _) _ _ _)) none _) _) _ _ _); refine Raise_E rfl ?_))
  k_with "~RaiseBack" => ((k_dflt (refine' RaiseBack.intro ?k1_8 ?k2_8 ?k3_8 ?k4_8 ?k5_8 ?_; (case k1_8 => k_asm); (case k2_8 => k_asm); (case k3_8 => k_asm); (case k4_8 => k_is); (case k5_8 => k_mem))))
  k_with "~call ref" => ((k_here; (with_reducible show wpAny _ _ (call (Value.ref 91) _ _) _ _ _); k_dflt (refine' call_excE ?k1_9 ?k2_9 ?k3_9 ?k4_9 ?k5_9 ?k6_9 ?k7_9 ?k8_9 ?k9_9 ?_; (case k1_9 => k_asm); (case k2_9 => k_asm); (case k3_9 => k_asm); (case k4_9 => k_is); (case k5_9 => k_is); (case k6_9 => k_is); (case k7_9 => k_is); (case k8_9 => k_is); (case k9_9 => size_fits); k_whole; intro e' t' h' F' N' l1 l2 l3; (try k_lt l1); (try k_lt2 l2); (try k_lt l3); (try k_sweep); (try dsimp only); k_enter)))
  k_with "~instx" => (first | (refine' inst_exc ?N_10 ?h1_10 ?h2_10; (case N_10 => with_reducible assumption); (case h1_10 => walk_at "memr"); (case h2_10 => walk_at "memr")) | (refine' inst_exc2 ?N_10 ?h1_10 ?hc_10 ?hd_10 ?hn_10 ?h2_10; (case hc_10 => with_reducible assumption); (case hd_10 => with_reducible assumption); (case hn_10 => with_reducible assumption); (case N_10 => with_reducible assumption); (case h1_10 => walk_at "memr"); (case h2_10 => walk_at "memr")))
  k_with "~instn" => ((refine' InstAt.of_news ?N_11 ?h1_11 ?h2_11; (case N_11 => with_reducible assumption); (case h1_11 => walk_at "memr"); (case h2_11 => walk_at "memr")))
  k_with "~k_inst" => (first | walk_at "instn" | walk_at "instx")
  k_with "~setAttr ref" => ((k_here; k_dflt (first | (refine' setE_new ?k1_13 ?k2_13 ?k3_13 ?k4_13 ?k5_13 ?k6_13 ?k6b_13 ?k7_13 ?k8_13 ?k9_13 ?k10_13 ?_; (case k1_13 => k_asm); (case k2_13 => k_asm); (case k3_13 => k_asm); (case k4_13 => k_all); (case k5_13 => k_is); (case k6_13 => k_is); (case k6b_13 => exact rfl); (case k7_13 => k_is); (case k8_13 => k_is); (case k9_13 => k_put); (case k10_13 => exact Nat.le_of_ble_eq_true rfl); k_whole; intro h' dx' F' N' l1 l2; (try k_lt l1); (try k_lt2 l2); (try k_sweep); (try dsimp only)) | (refine' setE_old ?k1_13 ?k2_13 ?k3_13 ?k4_13 ?k5_13 ?k6_13 ?k7_13 ?k7b_13 ?k8_13 ?k9_13 ?k10_13 ?k11_13 ?k12_13 ?k13_13 ?_; (case k1_13 => k_asm); (case k2_13 => k_asm); (case k3_13 => k_asm); (case k4_13 => walk_at "instx"); (case k5_13 => exact rfl); (case k6_13 => k_is); (case k7_13 => k_is); (case k7b_13 => exact rfl); (case k8_13 => k_is); (case k9_13 => k_is); (case k10_13 => k_get); (case k11_13 => k_put); (case k12_13 => k_upd); (case k13_13 => exact Nat.le_of_ble_eq_true rfl); k_whole; intro h' F' N'; (try k_sweep); (try dsimp only)))))
  k_with "~getAttr ref" => ((k_here; k_dflt (refine' getE ?k1_14 ?k2_14 ?k3_14 ?k4_14 ?k5_14 ?k6_14 ?k7_14 ?k8_14 ?k9_14 ?k10_14 ?_; (case k1_14 => k_asm); (case k2_14 => k_asm); (case k3_14 => walk_at "instx"); (case k4_14 => k_is); (case k5_14 => k_is); (case k6_14 => k_is); (case k7_14 => k_is); (case k8_14 => k_is); (case k9_14 => k_get); (case k10_14 => k_handed); k_whole)))
  k_with "~getAttr ref" => ((k_here; k_dflt (refine' get_own ?k1_15 ?k2_15 ?k3_15 ?k4_15 ?k5_15 ?k6_15 ?k7_15 ?k8_15 ?k9_15 ?_; (case k1_15 => k_asm); (case k2_15 => k_asm); (case k3_15 => walk_at "instn"); (case k4_15 => k_is); (case k5_15 => k_is); (case k6_15 => k_is); (case k7_15 => k_is); (case k8_15 => k_get); (case k9_15 => k_handed); k_whole)))
  k_with "~leaving ref" => ((k_here; k_dflt (first | (refine' leave_raiseD2 ?k1_16 ?k2_16 ?k3_16 ?k4_16 ?_; (case k1_16 => k_asm); (case k2_16 => k_asm); (case k3_16 => k_asm); (case k4_16 => k_all); k_whole; intro h' R' U'; (try dsimp only at R' U' ⊢)) | (refine' leave_onD ?k1_16 ?k2_16 ?k3_16 ?k4_16 ?_; (case k3_16 => k_asm); (case k2_16 => k_asm); (case k1_16 => k_asm); (case k4_16 => k_asm); k_whole; intro h' R' U'; (try dsimp only at R' U' ⊢)))))
  k_with "~subscriptTail Attribute Name Attribute ref int" => ((k_here; (with_reducible show wpAny _ _ (subscriptTail _ _ (Value.ref _) (Value.int _ _)) _ _ _); k_dflt (refine' item_ctx ?k1_17 ?k2_17 ?k3_17 ?k4_17 ?k5_17 ?_ ?k6_17; (case k1_17 => k_asm); (case k2_17 => k_mem); (case k3_17 => omega); (case k4_17 => omega); (case k5_17 => k_asm); (case k6_17 => with_unfolding_all rfl); k_whole)))
  k_with "~compareOp Eq str str" => ((k_here; k_dflt (refine eq_ctx (by k_asm) ?_)))
  k_with "~compareOp NotEq str str" => ((k_here; k_dflt (refine ne_ctx (by k_asm) ?_)))
  k_with "~call type:str" => ((k_here; (with_reducible show wpAny _ _ (call (Value.type "str") [Value.int _ _]) _ _ _); k_dflt (refine PySem.P.str_of_int (log_small (by k_asm) (by k_asm)) ?_)))
  k_with "~compareOp NotIn str ref" => ((k_here; k_dflt (first | refine resv_notin (by k_asm) (by k_asm) (by k_asm) ?_ | refine joinw_notin (by k_asm) (by k_asm) (by k_asm) ?_)))
  k_with "~compareOp In str ref" => ((k_here; k_dflt (refine sgn2_in (by k_asm) (by k_asm) (by k_asm) ?_)))
  k_with "~size_fits" => (exact size1000 (by k_asm))
  k_with "~subscriptTail Attribute Name Attribute str int" => ((k_here; (with_reducible show wpAny _ _ (subscriptTail _ _ (Value.str _ _) (Value.int _ _)) _ _ _); k_dflt (refine item_sctx (by k_asm) (by k_asm) ?_)))
  k_with "~compareOp In str str" => ((k_here; k_dflt (refine in_sctx (by k_asm) ?_)))
  k_with "~call builtin:ord" => ((k_here; (with_reducible show wpAny _ _ (call (Value.builtin "ord") [Value.str ⟨#[_]⟩ _]) _ _ _); refine ord_sctx ?_))
  k_with "~TurnI" => ((k_dflt (refine' TurnI.intro ?k1_27 ?k2_27 ?k3_27 ?k4_27; (case k1_27 => k_asm); (case k2_27 => k_asm); (case k3_27 => exact rfl); (case k4_27 => (intro z hz; simp [hz])))))
  k_with "~call builtin:str.isascii" => ((k_here; refine isascii_ctx (by k_asm) ?_))
  k_with "~subscriptTail Name Name str int" => ((k_here; k_dflt (refine item_sctx (by k_asm) (by k_asm) ?_)))
  k_with "~subscriptTail Attribute Name Slice str ref" => ((walk_at "last subscriptTail"))
  k_with "~storeName" => ((k_here; k_dflt (refine' storeX_L ?F_31 ?N_31 ?_ ?a_31 ?b_31; (case F_31 => k_asm); (case N_31 => k_asm); (case a_31 => rfl); (case b_31 => rfl); k_whole; intro h' F' N'; (try k_sweep); (try dsimp only))))
  k_with "~execs cons" => ((k_here; k_fold))
  k_with "~room" => (first | exact room1 (by with_reducible assumption) (Nat.le_of_ble_eq_true rfl) | exact room0 (by with_reducible assumption) (Nat.le_of_ble_eq_true rfl) | exact room2 (by with_reducible assumption) (Nat.le_of_ble_eq_true rfl))
  k_with "~ltc" => (first | (with_reducible assumption) | (with_reducible exact And.left (by with_reducible assumption)) | (with_reducible exact And.left (And.right (by with_reducible assumption))) | (with_reducible exact And.left (And.right (And.right (by with_reducible assumption)))) | (with_reducible exact And.left (And.right (And.right (And.right (by with_reducible assumption))))) | (with_reducible exact And.left (And.right (And.right (And.right (And.right (by with_reducible assumption)))))) | (with_reducible exact And.left (And.right (And.right (And.right (And.right (And.right (by with_reducible assumption))))))) | (with_reducible exact And.left (And.right (And.right (And.right (And.right (And.right (And.right (by with_reducible assumption)))))))) | (with_reducible exact (And.right (by with_reducible assumption))) | (with_reducible exact (And.right (And.right (by with_reducible assumption)))))
  k_with "~k_ne" => (((refine neN ?_); (try dsimp only); first | (with_reducible exact Nat.ne_of_lt (by walk_at "ltc")) | (with_reducible exact Nat.ne_of_gt (by walk_at "ltc"))))
  k_with "~k_all" => (first | assumption | exact ne_of_allLt (by assumption) | exact Ne.symm (by assumption) | (show _ ≠ _; k_ne) | (exact obj_ne (by k_asm) (by k_mem) (by k_mem) (by intro e; exact absurd (Value.type.inj e) (by decide))) | ((refine List.forall_mem_cons.mpr ⟨?_, ?_⟩); (focus k_all); k_all))
  k_with "~k_upd" => (first | (refine' Upd.head ?a_105; (case a_105 => k_all)) | (refine' Upd.tail ?a_105 ?b_105; (case a_105 => k_all); (case b_105 => k_upd)))
  k_with "~call ref" => ((k_here; (with_reducible show wpAny _ _ (call (Value.ref 445) _) _ _ _); k_dflt (refine' rdl_ok ?k1_135 ?k2_135 ?k3_135 ?k4_135 ?k5_135 ?k6_135 ?k7_135 ?k8_135 ?k9_135 ?k10_135 ?k11_135 ?k12_135 ?_; (case k1_135 => k_asm); (case k2_135 => k_asm); (case k3_135 => k_asm); (case k4_135 => k_asm); (case k5_135 => k_asm); (case k6_135 => first | exact rfl | assumption); (case k7_135 => assumption); (case k8_135 => assumption); (case k9_135 => (intro b hb; cases hb));  (case k10_135 => first | with_reducible exact lit1 | with_reducible exact lit2 | with_reducible exact lit3); (case k11_135 => first | k_room | ((try simp only [depth_under_make, depth_under_kw, depth_in1, depth_deeper, depth_caller]); decide) | decide); (case k12_135 => first | walk_at "room" | ((try simp only [units_under_make, units_in1, units_deeper, Around.mark_units, units_caller]); (try dsimp only [ktrTop]); first | walk_at "room" | omega) | (simp only [units_under_make, units_in1, units_deeper, Around.mark_units, units_caller]; decide) | decide); k_whole; intro gL tupL valsL nL hL tkL T' F' N' dL kL B' X' P' D'; have F9 := fr_nil T' F'; have N9 := news_nil T' N'; clear F' N' B' X' P' D' T'; (try k_sweep); (try dsimp only))))
  k_with "~call ref" => ((k_here; (with_reducible show wpAny _ _ (call (Value.ref 445) _) _ _ _); k_dflt (refine' nml_ok ?k1_136 ?k2_136 ?k3_136 ?k4_136 ?k5_136 ?k6_136 ?k7_136 ?k8_136 ?k9_136 ?k10_136 ?k11_136 ?k12_136 ?_; (case k1_136 => k_asm); (case k2_136 => k_asm); (case k3_136 => k_asm); (case k4_136 => k_asm); (case k5_136 => k_asm); (case k6_136 => first | exact rfl | assumption); (case k7_136 => assumption); (case k8_136 => assumption); (case k9_136 => (intro b hb; cases hb));  (case k10_136 => first | with_reducible exact lit4 | with_reducible exact lit5); (case k11_136 => first | k_room | ((try simp only [depth_under_make, depth_under_kw, depth_in1, depth_deeper, depth_caller]); decide) | decide); (case k12_136 => first | walk_at "room" | ((try simp only [units_under_make, units_in1, units_deeper, Around.mark_units, units_caller]); (try dsimp only [ktrTop]); first | walk_at "room" | omega) | (simp only [units_under_make, units_in1, units_deeper, Around.mark_units, units_caller]; decide) | decide); k_whole; intro gL tupL valsL nL exL hL tkL T' F' N' dL kL B' X' P' D'; have F9 := fr_nil T' F'; have N9 := news_nil T' N'; clear F' N' B' X' P' D' T'; (try k_sweep); (try dsimp only))))
  k_with "~call ref" => ((k_here; (with_reducible show wpAny _ _ (call (Value.ref 480) _) _ _ _); (with_reducible rename News _ _ _ _ => nV); k_dflt (first | (have nV' := news_mvS (l := []) nV) | (have nV' := news_mvS (l := [_]) nV) | (have nV' := news_mvS (l := [_, _]) nV) | (have nV' := news_mvS (l := [_, _, _]) nV) | (have nV' := news_mvS (l := [_, _, _, _]) nV) | (have nV' := news_mvS (l := [_, _, _, _, _]) nV)); (try simp only [List.cons_append, List.nil_append] at nV'); clear nV;  k_dflt (refine' tright_ok ?k1_137 ?k2_137 ?k3_137 ?k4_137 ?k5_137 ?k6_137 ?k7_137 ?k8_137 ?k9_137 ?k10_137 ?k11_137 ?k12_137 ?k13_137 ?k14_137 ?_; (case k1_137 => k_asm); (case k2_137 => k_asm); (case k3_137 => k_asm); (case k4_137 => k_asm); (case k5_137 => k_asm); (case k6_137 => first | exact rfl | assumption); (case k7_137 => assumption); (case k8_137 => assumption); (case k9_137 => k_all); (case k10_137 => first | assumption | exact pool_x _ _); (case k11_137 => first | assumption | exact (fmod_b _ (by decide)).1); (case k12_137 => first | assumption | exact (fmod_b _ (by decide)).2); (case k13_137 => first | k_room | ((try simp only [depth_under_make, depth_under_kw, depth_in1, depth_deeper, depth_caller]); decide) | decide); (case k14_137 => first | walk_at "room" | ((try simp only [units_under_make, units_in1, units_deeper, Around.mark_units, units_caller]); (try dsimp only [ktrTop]); first | walk_at "room" | omega) | (simp only [units_under_make, units_in1, units_deeper, Around.mark_units, units_caller]; decide) | decide); k_whole; intro xW yW txW tyW nW hW tkW fW nwW x0W y0W y1W; (try k_sweep); (try dsimp only))))
  k_with "~call ref" => ((k_here; (with_reducible show wpAny _ _ (call (Value.ref 487) _) _ _ _); (with_reducible rename News _ _ _ _ => nV); k_dflt (first | (have nV' := news_mvS (l := []) nV) | (have nV' := news_mvS (l := [_]) nV) | (have nV' := news_mvS (l := [_, _]) nV) | (have nV' := news_mvS (l := [_, _, _]) nV) | (have nV' := news_mvS (l := [_, _, _, _]) nV) | (have nV' := news_mvS (l := [_, _, _, _, _]) nV)); (try simp only [List.cons_append, List.nil_append] at nV'); clear nV;  k_dflt (refine' nright_ok ?k1_138 ?k2_138 ?k3_138 ?k4_138 ?k5_138 ?k6_138 ?k7_138 ?k8_138 ?k9_138 ?k10_138 ?k11_138 ?k12_138 ?k13_138 ?k14_138 ?_; (case k1_138 => k_asm); (case k2_138 => k_asm); (case k3_138 => k_asm); (case k4_138 => k_asm); (case k5_138 => k_asm); (case k6_138 => first | exact rfl | assumption); (case k7_138 => assumption); (case k8_138 => assumption); (case k9_138 => k_all); (case k10_138 => first | assumption | exact pool_x _ _); (case k11_138 => first | assumption | exact (fmod_b _ (by decide)).1); (case k12_138 => first | assumption | exact (fmod_b _ (by decide)).2); (case k13_138 => first | k_room | ((try simp only [depth_under_make, depth_under_kw, depth_in1, depth_deeper, depth_caller]); decide) | decide); (case k14_138 => first | walk_at "room" | ((try simp only [units_under_make, units_in1, units_deeper, Around.mark_units, units_caller]); (try dsimp only [ktrTop]); first | walk_at "room" | omega) | (simp only [units_under_make, units_in1, units_deeper, Around.mark_units, units_caller]; decide) | decide); k_whole; intro xW yW txW tyW nW hW tkW fW nwW x0W y0W y1W; (try k_sweep); (try dsimp only))))
  k_with "~compareOp NotEq ref ref" => ((k_here; (with_reducible show wpAny _ _ (compareOp CmpOp.NotEq (Value.ref _) (Value.ref _)) _ _ _); k_dflt (refine' netup_ctx ?k1_139 ?k2_139 ?k3_139 ?k4_139 ?k5_139 ?k6_139 ?k7_139 ?k8_139 ?_; (case k1_139 => k_asm); (case k2_139 => k_mem); (case k3_139 => k_mem); (case k4_139 => first | (refine' DatAll.mono (news := []) (fun _ h => nomatch h) ?dd_139; (case dd_139 => assumption)) | (refine' DatAll.mono ?dm_139 ?dd_139; (case dd_139 => assumption); (case dm_139 => (intro p hp; first | exact List.mem_cons_of_mem _ (List.mem_append_left _ hp) | exact List.mem_cons_of_mem _ (List.mem_cons_of_mem _ (List.mem_append_left _ hp)))))); (case k5_139 => first | exact DatAll.cons (DatIn.str _ _) (DatAll.cons (DatIn.int _ _) DatAll.nil) | exact DatAll.cons (DatIn.str _ _) (DatAll.cons (DatIn.str _ _) (DatAll.cons (DatIn.int _ _) DatAll.nil))); (case k6_139 => assumption); (case k7_139 => first | walk_at "room" | ((try simp only [units_under_make, units_in1, units_deeper, Around.mark_units, units_caller]); (try dsimp only [ktrTop]); walk_at "room") | ke_room | omega | ((try simp only [units_under_make, units_in1, units_deeper, Around.mark_units, units_caller]); (try dsimp only [ktrTop]); omega) | (simp only [units_under_make, units_in1, units_deeper, Around.mark_units, units_caller]; decide)); (case k8_139 => exact rfl); k_whole; (with_reducible rename News _ _ _ _ => nZ); have nZ2 := news_none nZ; clear nZ)))
  k_with "~call builtin:len" => ((k_here; (with_reducible show wpAny _ _ (call (Value.builtin "len") [Value.ref _]) _ _ _); k_dflt (refine' len_ground ?k1_134 ?k2_134 ?k3_134 ?k4_134 ?_; (case k1_134 => k_asm); (case k2_134 => assumption); (case k3_134 => assumption); (case k4_134 => assumption); k_whole)))
  k_with "~pyIter ref" => ((k_here; (with_reducible show wpAny _ _ (pyIter (Value.ref _)) (fun it s₂ => LoopAtV _ _ _ _ _ _ _ _ _ it s₂) _ _); (rename Fr _ _ _ _ => lF'); (rename News _ _ _ _ => lN'); (rename IsRange _ _ _ _ _ _ _ _ => rgX); (k_dflt (refine' law_loop [Str.ofString "source"] ?h1_140 ?h2_140 ?h3_140 ?h4_140 ?h5_140 ?h6_140 (fun n' t' u' h' tk' o' hlt' hlo' hhi' F' N' => ?_) (fun u' h' tk' F' N' => ?_); (case h1_140 => exact rfl); (case h2_140 => exact rgX); (case h3_140 => omega); (case h4_140 => omega); (case h5_140 => exact lF'); (case h6_140 => exact lN'))); all_goals (clear lF' lN'; (try dsimp only at N'); (try (first | k_lt hlt' | clear hlt')))))
  k_with "~call ref" => ((k_here; (with_reducible show wpAny _ _ (call (Value.ref 424) _) _ _ _); k_dflt (refine' pool_ok ?k1_141 ?k2_141 ?k3_141 ?k4_141 ?k5_141 ?k6_141 ?k7_141 ?k8_141 ?k9_141 ?k10_141 ?k11_141 ?k12_141 ?k13_141 ?k14_141 ?k15_141 ?_; (case k1_141 => k_asm); (case k2_141 => k_asm); (case k3_141 => k_asm); (case k4_141 => k_asm); (case k5_141 => k_asm); (case k6_141 => first | exact rfl | assumption); (case k7_141 => assumption); (case k8_141 => assumption); (case k9_141 => assumption); (case k10_141 => assumption); (case k11_141 => assumption); (case k12_141 => assumption); (case k13_141 => assumption); (case k14_141 => first | k_room | ((try simp only [depth_under_make, depth_under_kw, depth_in1, depth_deeper, depth_caller]); decide) | decide); (case k15_141 => first | walk_at "room" | ((try simp only [units_under_make, units_in1, units_deeper, Around.mark_units, units_caller]); (try dsimp only [ktrTop]); first | walk_at "room" | omega) | (simp only [units_under_make, units_in1, units_deeper, Around.mark_units, units_caller]; decide) | decide); k_whole; intro aP xP yP txP tyP nP hP tkP fP nwP offP x0P y0P y1P; (try k_sweep); (try dsimp only))))
  trivial
theorem fin0.tw13927255344943891570 : True := trivial
theorem fin0.tw16983695935994320442 : True := trivial
theorem fin0.tw11316948998536544271 : True := trivial
theorem fin0.tw12157568004689020864 : True := trivial
theorem fin0.tw14702233526488347992 : True := trivial
theorem fin0.tw16849065090814721657 : True := trivial
theorem fin0.tw18186272477661270542 : True := trivial
theorem fin0.tw12931001339626642624 : True := trivial
theorem fin0.tw12436319882516799629 : True := trivial
theorem fin0.tw11378110718868509627 : True := trivial
theorem fin0.tw6138259803201188188 : True := trivial
theorem fin0.tw8488376709201632658 : True := trivial
theorem fin0.tw11761783363533454726 : True := trivial
theorem fin0.tw4849837345345873991 : True := trivial
theorem fin0.tw9792515409307542109 : True := trivial
theorem fin0.tw28494487383914827 : True := trivial
theorem fin0.tw1955155871195406303 : True := trivial
theorem fin0.tw15129472660440768729 : True := trivial
theorem fin0.tw4198523191181948767 : True := trivial
theorem fin0.tw12457404524120416536 : True := trivial
theorem fin0.tw11507172954068067335 : True := trivial
theorem fin0.tw17862345445416492773 : True := trivial
theorem fin0.tw13151919573606928343 : True := trivial
theorem fin0.tw7846841116663264612 : True := trivial
theorem fin0.tw8869113165751759608 : True := trivial
theorem fin0.tw4239801698164698727 : True := trivial
theorem fin0.tw15053003072526822721 : True := trivial
theorem fin0.tw16337955952520308774 : True := trivial
theorem fin0.tw12339949732086949087 : True := trivial
theorem fin0.tw1020732844457939928 : True := trivial
theorem fin0.tw15555365092026677663 : True := trivial
theorem fin0.tw11003437412577474218 : True := trivial
theorem fin0.tw2365598951017070614 : True := trivial
theorem fin0.tw3187656008700102039 : True := trivial
theorem fin0.tw11467639250997474266 : True := trivial
theorem fin0.tw12125705001132350875 : True := trivial
theorem fin0.tw12192868276118031591 : True := trivial
theorem fin0.tw4406698708767477204 : True := trivial
theorem fin0.tw632840965300150218 : True := trivial
theorem fin0.tw1885660486116852041 : True := trivial
theorem fin0.tw15958450768906619938 : True := trivial
theorem fin0.tw3506947093154524826 : True := trivial
theorem fin0.tw8243197725427162660 : True := trivial
theorem fin0.tw7292889069296969209 : True := trivial
theorem fin0.tw2879637364206790463 : True := trivial
theorem fin0.tw11523319489410464271 : True := trivial
theorem fin0.tw17774756052520892202 : True := trivial
theorem fin0.tw3416286579343265572 : True := trivial
theorem fin0.tw10950806334736096025 : True := trivial
theorem fin0.tw16065093966155930590 : True := trivial
theorem fin0.tw10508793923854209725 : True := trivial
theorem fin0.tw11608560132104285304 : True := trivial
theorem fin0.tw4324305541831335197 : True := trivial
theorem fin0.tw6340718920224157801 : True := trivial
theorem fin0.tw10852335105695678271 : True := trivial
theorem fin0.tw9531205350313926271 : True := trivial
theorem fin0.tw10167025407021426192 : True := trivial
theorem fin0.tw1378387391313307208 : True := trivial
theorem fin0.tw12291003892322946698 : True := trivial
theorem fin0.tw5669459292522429409 : True := trivial
theorem fin0.tw18254182257101154620 : True := trivial
theorem fin0.tw10293250378804917830 : True := trivial
theorem fin0.tw15387377741910834310 : True := trivial
theorem fin0.tw16812000890017170564 : True := trivial
theorem fin0.tw2512374364683317655 : True := trivial
theorem fin0.tw16047671204902996136 : True := trivial
theorem fin0.tw1154487576879665231 : True := trivial
theorem fin0.tw4286442621627311918 : True := trivial
theorem fin0.tw3341870789656891487 : True := trivial
theorem fin0.tw15968175392794480330 : True := trivial
theorem fin0.tw2382288934627655165 : True := trivial
theorem fin0.tw12604460546908559629 : True := trivial
theorem fin0.tw11042091492466369129 : True := trivial
theorem fin0.tw18373073792115843741 : True := trivial
theorem fin0.tw5373541736121457976 : True := trivial
theorem fin0.tw5501893628730166400 : True := trivial
theorem fin0.tw12445225312917837718 : True := trivial
theorem fin0.tw14720526448378265263 : True := trivial
theorem fin0.tw7878033138772502039 : True := trivial
theorem fin0.tw8483355741201118732 : True := trivial
theorem fin0.tw12183277599493791227 : True := trivial
theorem fin0.tw8608046166890646057 : True := trivial
theorem fin0.tw14622471961857917921 : True := trivial
theorem fin0.tw15202388556175750299 : True := trivial
theorem fin0.tw5325834578938509570 : True := trivial
theorem fin0.tw13751902988793725677 : True := trivial
theorem fin0.tw6416764772892947155 : True := trivial
theorem fin0.tw3374617949513176842 : True := trivial
theorem fin0.tw7411292915676343125 : True := trivial
theorem fin0.tw9928178222119250237 : True := trivial
theorem fin0.tw13278966966618579186 : True := trivial
theorem fin0.tw11384909844162345364 : True := trivial
theorem fin0.tw15902284891858485046 : True := trivial
theorem fin0.tw11950401794208246208 : True := trivial
theorem fin0.tw15003155833612659448 : True := trivial
theorem fin0.tw13662229697682533417 : True := trivial
theorem fin0.tw6470078606771314383 : True := trivial
theorem fin0.tw16956924950141564874 : True := trivial
theorem fin0.tw15190797937224467050 : True := trivial
theorem fin0.tw1538669624781519542 : True := trivial
theorem fin0.tw3060411220161446130 : True := trivial
theorem fin0.tw11736838645121639571 : True := trivial
theorem fin0.tw16882972796773370077 : True := trivial
theorem fin0.tw16443033303295345867 : True := trivial
theorem fin0.tw16331554596083815013 : True := trivial
theorem fin0.tw11011620631103511308 : True := trivial
theorem fin0.tw13011199048229918049 : True := trivial
theorem fin0.tw2717279181604073046 : True := trivial
theorem fin0.tw15959652647919926196 : True := trivial
theorem fin0.tw16656711353224635877 : True := trivial
theorem fin0.tw16561387868684437042 : True := trivial
theorem fin0.tw14307471472537434856 : True := trivial
theorem fin0.tw13577212024481763333 : True := trivial
theorem fin0.tw12513024514309951133 : True := trivial
theorem fin0.tw6860876337154935427 : True := trivial
theorem fin0.tw2365882591182811124 : True := trivial
theorem fin0.tw10447494569711153728 : True := trivial
theorem fin0.tw13629798883385691103 : True := trivial
theorem fin0.tw13483282091311548849 : True := trivial
theorem fin0.tw131434551978230859 : True := trivial
theorem fin0.tw13414751795899929189 : True := trivial
theorem fin0.tw1440582819229959622 : True := trivial
theorem fin0.tw11374019656007623269 : True := trivial
theorem fin0.tw5833776737349006830 : True := trivial
theorem fin0.tw8602264150632403920 : True := trivial
theorem fin0.tw17760993225400693553 : True := trivial
theorem fin0.tw1182634328671825292 : True := trivial
theorem fin0.tw15347306734754940101 : True := trivial
theorem fin0.tw6912889734785712464 : True := trivial
theorem fin0.tw4763269371269560071 : True := trivial
theorem fin0.tw7338023798677133842 : True := trivial
theorem fin0.tw8770295426257303531 : True := trivial
theorem fin0.tw8699601197190442305 : True := trivial
theorem fin0.tw7236301461436153623 : True := trivial
theorem fin0.tw7155975145970720633 : True := trivial
theorem fin0.tw14547437427839808660 : True := trivial
theorem fin0.tw4204053952690414810 : True := trivial
theorem fin0.tw2020058349328835956 : True := trivial
theorem fin0.tw15243169095233138136 : True := trivial
theorem fin0.tw4629215598541404829 : True := trivial
theorem fin0.tw10618074914856527326 : True := trivial
theorem fin0.tw12095452986737332369 : True := trivial
theorem fin0.tw190838972124886468 : True := trivial
theorem fin0.tw1981142057609775664 : True := trivial
theorem fin0.tw18271381345879242380 : True := trivial
theorem fin0.tw4999074939351099739 : True := trivial
theorem fin0.tw2715743751889927323 : True := trivial
theorem fin0.tw10567957995448672610 : True := trivial
theorem fin0.tw18066973335045326795 : True := trivial
theorem fin0.tw16624215229766345286 : True := trivial
theorem fin0.tw5208676125602537475 : True := trivial
theorem fin0.tw9192885686446376484 : True := trivial
theorem fin0.tw1926277097374222959 : True := trivial
theorem fin0.tw13635373862063122277 : True := trivial
theorem fin0.tw2931003419409409494 : True := trivial
theorem fin0.tw5510414504796400488 : True := trivial
theorem fin0.tw4068574049313156778 : True := trivial
theorem fin0.tw4198117270206065324 : True := trivial
theorem fin0.tw7652190701560437932 : True := trivial
theorem fin0.tw13414134228678803789 : True := trivial
theorem fin0.tw9391853156875453712 : True := trivial
theorem fin0.tw13096175788023228451 : True := trivial
theorem fin0.tw6527972309674541344 : True := trivial
theorem fin0.tw14582730769050606687 : True := trivial
theorem fin0.tw11577479334058310310 : True := trivial
theorem fin0.tw6427248145555327326 : True := trivial
theorem fin0.tw1170521588766115954 : True := trivial
theorem fin0.tw6043215808874322062 : True := trivial
theorem fin0.tw5685796116856793224 : True := trivial
theorem fin0.tw14689962459322763143 : True := trivial
theorem fin0.tw10414598432687178571 : True := trivial
theorem fin0.tw1140885933030806830 : True := trivial
theorem fin0.tw11108541144360216934 : True := trivial
theorem fin0.tw3585818806002788521 : True := trivial
theorem fin0.tw16594342597212891052 : True := trivial
theorem fin0.tw3908225870834379431 : True := trivial
theorem fin0.tw8567668598671978758 : True := trivial
theorem fin0.tw10602324115004383975 : True := trivial
theorem fin0.tw15945211770956003621 : True := trivial
theorem fin0.tw15784259638395251714 : True := trivial
theorem fin0.tw2754729405561717065 : True := trivial
theorem fin0.tw15643617000092566005 : True := trivial
theorem fin0.tw3741018558954807939 : True := trivial
theorem fin0.tw7201533913184286658 : True := trivial
theorem fin0.tw12417224451031024243 : True := trivial
theorem fin0.tw3366945345360527483 : True := trivial
theorem fin0.tw15276903018107045063 : True := trivial
theorem fin0.tw4608569773558109451 : True := trivial
theorem fin0.tw8932824570208531483 : True := trivial
theorem fin0.tw11191397319204955746 : True := trivial
theorem fin0.tw8715144170882522474 : True := trivial
theorem fin0.tw14531046873001078631 : True := trivial
theorem fin0.tw15672057197418507788 : True := trivial
theorem fin0.tw1526108734177391822 : True := trivial
theorem fin0.tw15248693866857963400 : True := trivial
theorem fin0.tw10767604201866457026 : True := trivial
theorem fin0.tw3737006768337655560 : True := trivial
theorem fin0.tw3824198435457678302 : True := trivial
theorem fin0.tw2693530747291826272 : True := trivial
theorem fin0.tw15617241008474802324 : True := trivial
theorem fin0.tw12739371449619984134 : True := trivial
theorem fin0.tw5048856489562250464 : True := trivial
theorem fin0.tw12862986623866168748 : True := trivial
theorem fin0.tw6035988197027828148 : True := trivial
theorem fin0.tw6676202710546815790 : True := trivial
theorem fin0.tw6563591634304382450 : True := trivial
theorem fin0.tw13843409651890027399 : True := trivial
theorem fin0.tw15210770538050732032 : True := trivial
theorem fin0.tw3999149275696692158 : True := trivial
theorem fin0.tw2514861476960466537 : True := trivial
theorem fin0.tw12309616969253804173 : True := trivial
theorem fin0.tw7577787283268432142 : True := trivial
theorem fin0.tw13060639381198476074 : True := trivial
theorem fin0.tw7467599922689290903 : True := trivial
theorem fin0.tw16172917577187031124 : True := trivial
theorem fin0.tw9929614494519103325 : True := trivial
theorem fin0.tw3944622132429513111 : True := trivial
theorem fin0.tw13212484864201001264 : True := trivial
theorem fin0.tw5369232671884707870 : True := trivial
theorem fin0.tw16167906071668959703 : True := trivial
theorem fin0.tw12629004911928795544 : True := trivial
theorem fin0.tw6128012118525340935 : True := trivial
theorem fin0.tw17888233615626785633 : True := trivial
theorem fin0.tw7141704790223437164 : True := trivial
theorem fin0.tw11368605141669842148 : True := trivial
theorem fin0.tw403335293030596006 : True := trivial
theorem fin0.tw13659317175855388907 : True := trivial
theorem fin0.tw16276231889782169059 : True := trivial
theorem fin0.tw4665909425921988670 : True := trivial
theorem fin0.tw6350420478773268873 : True := trivial
theorem fin0.tw12906396195491452372 : True := trivial
theorem fin0.tw17528802674472618806 : True := trivial
theorem fin0.tw13468962959008147594 : True := trivial
theorem fin0.tw8993938493676964190 : True := trivial
theorem fin0.tw18154138808348462138 : True := trivial
theorem fin0.tw436239040924825418 : True := trivial
theorem fin0.tw678899988223414644 : True := trivial
theorem fin0.tw18070917177879699313 : True := trivial
theorem fin0.tw12178183277865099037 : True := trivial
theorem fin0.tw14622455948156490178 : True := trivial
theorem fin0.tw16160050598748938663 : True := trivial
theorem fin0.tw3738523269214684630 : True := trivial
theorem fin0.tw5551364472244222447 : True := trivial
theorem fin0.tw8064098437163832319 : True := trivial
theorem fin0.tw6567351127287974844 : True := trivial
theorem fin0.tw4934678545460286711 : True := trivial
theorem fin0.tw17480215690961820552 : True := trivial
theorem fin0.tw18391155935228115036 : True := trivial
theorem fin0.tw15862376404431751570 : True := trivial
theorem fin0.tw9846539101521996562 : True := trivial
theorem fin0.tw6206780212239297789 : True := trivial
theorem fin0.tw4374835585219773227 : True := trivial
theorem fin0.tw879331741549907865 : True := trivial
theorem fin0.tw15400386629497831086 : True := trivial
theorem fin0.tw15616664775391873501 : True := trivial
theorem fin0.tw2523454752933530716 : True := trivial
theorem fin0.tw17222664045780316027 : True := trivial
theorem fin0.tw9453043491955404426 : True := trivial
theorem fin0.tw15061379609708409920 : True := trivial
theorem fin0.tw13851534153660637004 : True := trivial
theorem fin0.tw3936648643865487456 : True := trivial
theorem fin0.tw11044241755801930104 : True := trivial
theorem fin0.tw6150186401607814826 : True := trivial
theorem fin0.tw7968551205423833495 : True := trivial
theorem fin0.tw4600053049455845579 : True := trivial
theorem fin0.tw13612867726763274133 : True := trivial
theorem fin0.tw3083862269048201972 : True := trivial
theorem fin0.tw5733962648293557208 : True := trivial
theorem fin0.tw6820780868853814717 : True := trivial
theorem fin0.tw17981558760071941555 : True := trivial
theorem fin0.tw12934252464286440725 : True := trivial
theorem fin0.tw5958670441552468980 : True := trivial
theorem fin0.tw10241880648042412113 : True := trivial
theorem fin0.tw11250206590638371777 : True := trivial
theorem fin0.tw7766086017694776522 : True := trivial
theorem fin0.tw14111097432062686370 : True := trivial
theorem fin0.tw18439255667737300367 : True := trivial
theorem fin0.tw9768398898781625660 : True := trivial
theorem fin0.tw1606522781979214879 : True := trivial
theorem fin0.tw8681563067724037125 : True := trivial
theorem fin0.tw17627493139188911309 : True := trivial
theorem fin0.tw15347090377752923193 : True := trivial
theorem fin0.tw11873130189460786071 : True := trivial
theorem fin0.tw4401382075244213475 : True := trivial
theorem fin0.tw8737149510217443140 : True := trivial
theorem fin0.tw1154479813718211167 : True := trivial
theorem fin0.tw15867572739915761342 : True := trivial
theorem fin0.tw5543428481973124499 : True := trivial
theorem fin0.tw5749490895647815608 : True := trivial
theorem fin0.tw10376879144778605278 : True := trivial
theorem fin0.tw11018346871524647768 : True := trivial
theorem fin0.tw17496546766890260434 : True := trivial
theorem fin0.tw5004105663482390416 : True := trivial
theorem fin0.tw11992400169104739860 : True := trivial
theorem fin0.tw11012133031883839125 : True := trivial
theorem fin0.tw4798495693462030847 : True := trivial
theorem fin0.tw2302390121510579953 : True := trivial
theorem fin0.tw15666556980101696111 : True := trivial
theorem fin0.tw18414463054721624813 : True := trivial
theorem fin0.tw13652533233648364841 : True := trivial
theorem fin0.tw12234747510244227511 : True := trivial
theorem fin0.tw6434245986286233471 : True := trivial
theorem fin0.tw15139305840266156368 : True := trivial
theorem fin0.tw4932206669529671655 : True := trivial
theorem fin0.tw13069300277216969932 : True := trivial
theorem fin0.tw10731064137696000226 : True := trivial
theorem fin0.tw15842190768098354805 : True := trivial
theorem fin0.tw3797586741690118009 : True := trivial
theorem fin0.tw6214188540488966333 : True := trivial
theorem fin0.tw651070877937976690 : True := trivial
theorem fin0.tw7100065816254616941 : True := trivial
theorem fin0.tw5323188754124861763 : True := trivial
theorem fin0.tw15905060584034798376 : True := trivial
theorem fin0.tw6337627093613825852 : True := trivial
theorem fin0.tw5715246327684338128 : True := trivial
theorem fin0.tw17818387768043340142 : True := trivial
theorem fin0.tw14184091605983411866 : True := trivial
theorem fin0.tw6802725466080223606 : True := trivial
theorem fin0.tw15711910788034021953 : True := trivial
theorem fin0.tw6350459708825596694 : True := trivial
theorem fin0.tw4850505593637134073 : True := trivial
theorem fin0.tw17855384440576655681 : True := trivial
theorem fin0.tw10721374075511243963 : True := trivial
theorem fin0.tw12909342340256747803 : True := trivial
theorem fin0.tw15290473183258774105 : True := trivial
theorem fin0.tw7915419460485410719 : True := trivial
theorem fin0.tw14198448802132242373 : True := trivial
theorem fin0.tw16325402397645385523 : True := trivial
theorem fin0.tw7962800198453762518 : True := trivial
theorem fin0.tw17300375688104036764 : True := trivial
theorem fin0.tw13250091654368158078 : True := trivial
theorem fin0.tw488513250898516850 : True := trivial
theorem fin0.tw3542603863930852872 : True := trivial
theorem fin0.tw14763232565728552558 : True := trivial
theorem fin0.tw12540565748316301688 : True := trivial
theorem fin0.tw5129542253466960231 : True := trivial
theorem fin0.tw9355547682003399170 : True := trivial
theorem fin0.tw9639937323277152434 : True := trivial
theorem fin0.tw7779358234832003848 : True := trivial
theorem fin0.tw12781313204199110460 : True := trivial
theorem fin0.tw13135812517109001057 : True := trivial
theorem fin0.tw4730194261776057655 : True := trivial
theorem fin0.tw17711408889299173303 : True := trivial
theorem fin0.tw671025725485971749 : True := trivial
theorem fin0.tw7266091092537576892 : True := trivial
theorem fin0.tw2114860189397586144 : True := trivial
theorem fin0.tw7799224022576691580 : True := trivial
theorem fin0.tw3643906265717732846 : True := trivial
theorem fin0.tw5284899049770301971 : True := trivial
theorem fin0.tw1824186868024154408 : True := trivial
theorem fin0.tw3162988352852043876 : True := trivial
theorem fin0.tw976146387921353474 : True := trivial
theorem fin0.tw704094290386127427 : True := trivial
theorem fin0.tw13652535316862266973 : True := trivial
theorem fin0.tw9360206155403234339 : True := trivial
theorem fin0.tw12641210803160591152 : True := trivial
theorem fin0.tw4127827339972764385 : True := trivial
theorem fin0.tw12149550743476515854 : True := trivial
theorem fin0.tw3265346925332311075 : True := trivial
theorem fin0.tw8111048892580906322 : True := trivial
theorem fin0.tw2632999059643194345 : True := trivial
theorem fin0.tw3259527907382304496 : True := trivial
theorem fin0.tw3459014136866157935 : True := trivial
theorem fin0.tw17566397629865375600 : True := trivial
theorem fin0.tw4790995647603312319 : True := trivial
theorem fin0.tw455226871261296585 : True := trivial
theorem fin0.tw7994797637083098196 : True := trivial
theorem fin0.tw14635458502626191691 : True := trivial
theorem fin0.tw6189765042506286653 : True := trivial
theorem fin0.tw18264971603150782145 : True := trivial
theorem fin0.tw5122570350836030927 : True := trivial
theorem fin0.tw16917618839880556162 : True := trivial
theorem fin0.tw13210000012512082162 : True := trivial
theorem fin0.tw4543575232158506449 : True := trivial
theorem fin0.tw7040657554587132378 : True := trivial
theorem fin0.tw2120497207227552687 : True := trivial
theorem fin0.tw14161639412413215588 : True := trivial
theorem fin0.tw12525469203971313138 : True := trivial
theorem fin0.tw17073442414120915339 : True := trivial
theorem fin0.tw4596927159669386851 : True := trivial
theorem fin0.tw1221150653621781483 : True := trivial
theorem fin0.tw2864063593793082149 : True := trivial
theorem fin0.tw17062484770954316263 : True := trivial
theorem fin0.tw6924222983375910762 : True := trivial
theorem fin0.tw2505257918346809437 : True := trivial
theorem fin0.tw6110475062137922000 : True := trivial
theorem fin0.tw10703100181107440340 : True := trivial
theorem fin0.tw16180447628552648461 : True := trivial
theorem fin0.tw3039573449309901282 : True := trivial
theorem fin0.tw14386992102748336605 : True := trivial
theorem fin0.tw17775791322684197796 : True := trivial
theorem fin0.tw7278678826832017462 : True := trivial
theorem fin0.tw16330094737485907717 : True := trivial
theorem fin0.tw4283453786769408243 : True := trivial
theorem fin0.tw465053734509709063 : True := trivial
theorem fin0.tw16207792832205372609 : True := trivial
theorem fin0.tw12760842481792902177 : True := trivial
theorem fin0.tw5812729954763425958 : True := trivial
theorem fin0.tw263289933627990560 : True := trivial
theorem fin0.tw4299595869085267033 : True := trivial
theorem fin0.tw10075907547374887284 : True := trivial
theorem fin0.tw6996584316665414704 : True := trivial
theorem fin0.tw5787363077701712882 : True := trivial
theorem fin0.tw15226686594143366996 : True := trivial
theorem fin0.tw13652035953707216163 : True := trivial
theorem fin0.tw9045514207400704456 : True := trivial
theorem fin0.tw9305998527888157533 : True := trivial
theorem fin0.tw10327194328210573216 : True := trivial
theorem fin0.tw734787958221842752 : True := trivial
theorem fin0.tw17145940123404756739 : True := trivial
theorem fin0.tw16782104310495602968 : True := trivial
theorem fin0.tw6845502063426881744 : True := trivial
theorem fin0.tw8265659427056675422 : True := trivial
theorem fin0.tw8152875187190830645 : True := trivial
theorem fin0.tw1807467741514441049 : True := trivial
theorem fin0.tw4631262865548259779 : True := trivial
theorem fin0.tw7461226128529397166 : True := trivial
theorem fin0.tw16431421315131912879 : True := trivial
theorem fin0.tw15377989224762724923 : True := trivial
theorem fin0.tw10505251502819291546 : True := trivial
theorem fin0.tw10801782302616015807 : True := trivial
theorem fin0.tw2003108837085733535 : True := trivial
theorem fin0.tw2634792698736594443 : True := trivial
theorem fin0.tw8286562860990875456 : True := trivial
theorem fin0.tw7682140274039224878 : True := trivial
theorem fin0.tw13470194624600099348 : True := trivial
theorem fin0.tw4408495112773585486 : True := trivial
theorem fin0.tw7021149611694721980 : True := trivial
theorem fin0.tw3624604660143973072 : True := trivial
theorem fin0.tw8835255980931657406 : True := trivial
theorem fin0.tw3426407870152028728 : True := trivial
theorem fin0.tw1525971112136286441 : True := trivial
theorem fin0.tw13737884489161096914 : True := trivial
theorem fin0.tw15569336753611646598 : True := trivial
theorem fin0.tw10395803162500377381 : True := trivial
theorem fin0.tw5337429878115067332 : True := trivial
theorem fin0.tw1389641716500457422 : True := trivial
theorem fin0.tw13147537959811698225 : True := trivial
theorem fin0.tw11312203189275231945 : True := trivial
theorem fin0.tw10644633653884718407 : True := trivial
theorem fin0.tw16960276959775096947 : True := trivial
theorem fin0.tw3008003178381533324 : True := trivial
theorem fin0.tw12257624437273330086 : True := trivial
theorem fin0.tw3770764029452721799 : True := trivial
theorem fin0.tw1559253145245704975 : True := trivial
theorem fin0.tw11571758148927305028 : True := trivial
theorem fin0.tw17267124531261721334 : True := trivial
theorem fin0.tw13133741867116811492 : True := trivial
theorem fin0.tw2510830429353263740 : True := trivial
theorem fin0.tw14945499460156611840 : True := trivial
theorem fin0.tw6600253871031309994 : True := trivial
theorem fin0.tw4147352212742310423 : True := trivial
theorem fin0.tw3922596929451439087 : True := trivial
theorem fin0.tw3784455849454481227 : True := trivial
theorem fin0.tw1030427936638975415 : True := trivial
theorem fin0.tw9433945819292489016 : True := trivial
theorem fin0.tw1793680489414716721 : True := trivial
theorem fin0.tw13906209073027121720 : True := trivial
theorem fin0.tw7915154977043521276 : True := trivial
theorem fin0.tw10270114783254131269 : True := trivial
theorem fin0.tw18400088834428278346 : True := trivial
theorem fin0.tw11890465640941806068 : True := trivial
theorem fin0.tw7355911924254630962 : True := trivial
theorem fin0.tw4027804936395056901 : True := trivial
theorem fin0.tw15468891766581136319 : True := trivial
theorem fin0.tw12068211521685329138 : True := trivial
theorem fin0.tw18222838078283579788 : True := trivial
theorem fin0.tw5131716896835623901 : True := trivial
theorem fin0.tw14768032080971381948 : True := trivial
theorem fin0.tw13440616945223444687 : True := trivial
theorem fin0.tw2141585279389381560 : True := trivial
theorem fin0.tw14204140454265870205 : True := trivial
theorem fin0.tw7144361534888875730 : True := trivial
theorem fin0.tw11953789313455069782 : True := trivial
theorem fin0.tw10721083565636592448 : True := trivial
theorem fin0.tw9490730077522194144 : True := trivial
theorem fin0.tw5201515512486424168 : True := trivial
theorem fin0.tw3516508822617492201 : True := trivial
theorem fin0.tw8363612889968451913 : True := trivial
theorem fin0.tw9133059944004290986 : True := trivial
theorem fin0.tw11371779068240914634 : True := trivial
theorem fin0.tw17947849409904723231 : True := trivial
theorem fin0.tw18180907166984324398 : True := trivial
theorem fin0.tw5419753797946329805 : True := trivial
theorem fin0.tw9966769702241007863 : True := trivial
theorem fin0.tw16605016588282615384 : True := trivial
theorem fin0.tw10066114333043385185 : True := trivial
theorem fin0.tw14417148838240118341 : True := trivial
theorem fin0.tw1601136138807049390 : True := trivial
theorem fin0.tw14539770665415437779 : True := trivial
theorem fin0.tw14185847664597898101 : True := trivial
theorem fin0.tw9869512896089096556 : True := trivial
theorem fin0.tw16397600742980456287 : True := trivial
theorem fin0.tw1782982982168870244 : True := trivial
theorem fin0.tw17500454118634108535 : True := trivial
theorem fin0.tw14859998318728952049 : True := trivial
theorem fin0.tw9941271556818407134 : True := trivial
theorem fin0.tw14116166892048723703 : True := trivial
theorem fin0.tw10499715667789683743 : True := trivial
theorem fin0.tw13205680914928178637 : True := trivial
theorem fin0.tw5806904728121802022 : True := trivial
theorem fin0.tw1986206867558056127 : True := trivial
theorem fin0.tw5403631299640628831 : True := trivial
theorem fin0.tw7987878136074610006 : True := trivial
theorem fin0.tw10715318373933823536 : True := trivial
theorem fin0.tw12416242222280170446 : True := trivial
theorem fin0.tw11055000415274004888 : True := trivial
theorem fin0.tw6826750379519172251 : True := trivial
theorem fin0.tw11050991297714141075 : True := trivial
theorem fin0.tw14244839437953922669 : True := trivial
theorem fin0.tw11146117540345289957 : True := trivial
theorem fin0.tw13614904915722868902 : True := trivial
theorem fin0.tw4691855687526147308 : True := trivial
theorem fin0.tw13569147290142149058 : True := trivial
theorem fin0.tw2562923034203191718 : True := trivial
theorem fin0.tw10272780782277582835 : True := trivial
theorem fin0.tw10488517813134506325 : True := trivial
theorem fin0.tw8530707865363128294 : True := trivial
theorem fin0.tw9070725877268129172 : True := trivial
theorem fin0.tw15066444947465416613 : True := trivial
theorem fin0.tw6365649917469923772 : True := trivial
theorem fin0.tw7538485151195171130 : True := trivial
theorem fin0.tw11480396695779019336 : True := trivial
theorem fin0.tw8873311058542888407 : True := trivial
theorem fin0.tw9770264975573687469 : True := trivial
theorem fin0.tw2094759583737248971 : True := trivial
theorem fin0.tw3723907682191922478 : True := trivial
theorem fin0.tw17817784119796082099 : True := trivial
theorem fin0.tw16869788424166881166 : True := trivial
theorem fin0.tw4021866365300460119 : True := trivial
theorem fin0.tw9409891617203431856 : True := trivial
theorem fin0.tw4774321125693810045 : True := trivial
theorem fin0.tw7353445838488074735 : True := trivial
theorem fin0.tw13546361088021459067 : True := trivial
theorem fin0.tw7301404403804485935 : True := trivial
theorem fin0.tw12634365440293791355 : True := trivial
theorem fin0.tw6274886781408863428 : True := trivial
theorem fin0.tw7330577316265528315 : True := trivial
theorem fin0.tw14621641464133817886 : True := trivial
theorem fin0.tw18411230518011538447 : True := trivial
theorem fin0.tw1184883183971771353 : True := trivial
theorem fin0.tw15044324718123615773 : True := trivial
theorem fin0.tw14974097653545058736 : True := trivial
theorem fin0.tw7068093067380802205 : True := trivial
theorem fin0.tw16115741205520468626 : True := trivial
theorem fin0.tw17147100792893218133 : True := trivial
theorem fin0.tw2477904596222973074 : True := trivial
theorem fin0.tw17175313918527636838 : True := trivial
theorem fin0.tw17481346855598148655 : True := trivial
theorem fin0.tw14834388237984625782 : True := trivial
theorem fin0.tw3815802477331548579 : True := trivial
theorem fin0.tw4396311847973886750 : True := trivial
theorem fin0.tw14146290174317464261 : True := trivial
theorem fin0.tw8837303206198977293 : True := trivial
theorem fin0.tw1498904001340856895 : True := trivial
theorem fin0.tw17638846812024763172 : True := trivial
theorem fin0.tw11678002472851275121 : True := trivial
theorem fin0.tw13906209037894383116 : True := trivial
theorem fin0.tw4242765856984911621 : True := trivial
theorem fin0.tw8135999041878611129 : True := trivial
theorem fin0.tw12012885633558255775 : True := trivial
theorem fin0.tw10037720933117378140 : True := trivial
theorem fin0.tw15492323407724335753 : True := trivial
theorem fin0.tw11569419401438659093 : True := trivial
theorem fin0.tw5030814939079571480 : True := trivial
theorem fin0.tw2363350376040455893 : True := trivial
theorem fin0.tw4751548433848981488 : True := trivial
theorem fin0.tw11579680645842987771 : True := trivial
theorem fin0.tw6436725055793283146 : True := trivial
theorem fin0.tw8517184577458574439 : True := trivial
theorem fin0.tw3599840599690631482 : True := trivial
theorem fin0.tw5184210010277179194 : True := trivial
theorem fin0.tw3516820218940937382 : True := trivial
theorem fin0.tw2615725848561824507 : True := trivial
theorem fin0.tw404390850817167910 : True := trivial
theorem fin0.tw16977980279628521802 : True := trivial
theorem fin0.tw9423809615268740477 : True := trivial
theorem fin0.tw9042836830059360321 : True := trivial
theorem fin0.tw298461070136730066 : True := trivial
theorem fin0.tw1637764767407414686 : True := trivial
theorem fin0.tw7782853791240081864 : True := trivial
theorem fin0.tw6794675014373893318 : True := trivial
theorem fin0.tw1607359778028912606 : True := trivial
theorem fin0.tw14632511526876519933 : True := trivial
theorem fin0.tw154315569736682197 : True := trivial
theorem fin0.tw16731645388422200541 : True := trivial
theorem fin0.tw17610175776442179144 : True := trivial
theorem fin0.tw11739663969554428608 : True := trivial
theorem fin0.tw18151181607639856655 : True := trivial
theorem fin0.tw4492213210528529183 : True := trivial
theorem fin0.tw883118868031498864 : True := trivial
theorem fin0.tw10546345409017505798 : True := trivial
theorem fin0.tw5728698702959214375 : True := trivial
theorem fin0.tw12050720795852252530 : True := trivial
theorem fin0.tw12746111380919627694 : True := trivial
theorem fin0.tw16127006215790055373 : True := trivial
theorem fin0.tw13590567465689965163 : True := trivial
theorem fin0.tw10333750088489571767 : True := trivial
set_option Elab.async true in
set_option maxHeartbeats 12000000 in
theorem fin0 : PySem.Challenge.rw_xm0761_01.Holds := by
  w_on
  o_law
  o_head (kHook Mine.K1 Mine.K1as (fun _ => by kernel_rfl))
  (case hw => w_witness2)
  k_go0
  all_goals try k_fold
  k_steps
end
end Mine
end
theorem PySem.Challenge.cw_xm0761_01_holds : PySem.Challenge.rw_xm0761_01.Holds :=
  Mine.fin0
