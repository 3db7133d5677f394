import PyProof.Rows.All
import Wide.All
import OpenK.AllK
import Wide.FinOn
import PySem.Challenge.RW_sa0035_01
set_option Elab.async false
set_option maxRecDepth 100000
set_option maxHeartbeats 8000000
set_option compiler.extract_closed false
set_option linter.unusedVariables false
set_option linter.unusedSimpArgs false
namespace Kp.Internal
open PySem PySem.W PyProof.Rows
theorem hd.tw15120445971407339751:True:=⟨⟩
theorem hd.tw2538911588335900981:True:=⟨⟩
theorem hd.tw14812915912138535780:True:=⟨⟩
theorem hd.tw8909787383789336808:True:=⟨⟩
theorem hd.tw9450763203564241781:True:=⟨⟩
theorem hd.tw90275826849761440:True:=⟨⟩
theorem hd.tw6023555148062095677:True:=⟨⟩
theorem hd.tw12091807969645915257:True:=⟨⟩
theorem hd.tw16781925041830111422:True:=⟨⟩
theorem hd.tw7968263698247113574:True:=⟨⟩
theorem hd.tw4789556120715711468:True:=⟨⟩
theorem hd.tw5535891600511881927:True:=⟨⟩
theorem hd.tw13928705267293507027:True:=⟨⟩
theorem hd.tw17097513880181805942:True:=⟨⟩
theorem hd.tw16675234962188663658:True:=⟨⟩
theorem hd.tw6240903927295199486:True:=⟨⟩
theorem hd.tw15265248361119194413:True:=⟨⟩
theorem hd.tw10783418582661164277:True:=⟨⟩
theorem hd.tw2865752667386982980:True:=⟨⟩
theorem hd.tw2730526361731354102:True:=⟨⟩
theorem hd.tw540211167687892434:True:=⟨⟩
theorem hd.tw4602197515991798838:True:=⟨⟩
theorem hd.tw3044917569443113023:True:=⟨⟩
theorem hd.tw16953788563767628828:True:=⟨⟩
theorem hd.tw266885847885776797:True:=⟨⟩
theorem hd.tw15998903755511018609:True:=⟨⟩
theorem hd.tw841024905845830268:True:=⟨⟩
theorem hd.tw4248209409808057696:True:=⟨⟩
theorem hd.tw13632657424762413806:True:=⟨⟩
theorem hd.tw4259811951141004081:True:=⟨⟩
theorem hd.tw12264077311093239203:True:=⟨⟩
theorem hd.tw10260838820682660110:True:=⟨⟩
theorem hd.tw2524051634288380050:True:=⟨⟩
theorem hd.tw7710256612006353333:True:=⟨⟩
theorem hd.tw13943810056889790108:True:=⟨⟩
theorem hd.tw10273314807881074290:True:=⟨⟩
theorem hd.tw13728528991210380105:True:=⟨⟩
theorem hd.tw14179801180872929465:True:=⟨⟩
theorem hd.tw18122242707202066257:True:=⟨⟩
theorem hd.tw3453504984753097979:True:=⟨⟩
theorem hd.tw11242684749291787418:True:=⟨⟩
theorem hd.tw13245091667910266659:True:=⟨⟩
theorem hd.tw14578474374799497876:True:=⟨⟩
theorem hd.tw9414911311619893839:True:=⟨⟩
theorem hd.tw14120992870650794246:True:=⟨⟩
theorem hd.tw7606471449322895235:True:=⟨⟩
theorem hd.tw9109425054117214105:True:=⟨⟩
theorem hd.tw9385741058055662617:True:=⟨⟩
theorem hd.tw4829906489216886924:True:=⟨⟩
theorem hd.tw6767895116318160361:True:=⟨⟩
theorem hd.tw16734948490983479635:True:=⟨⟩
theorem hd.tw3658018891218932580:True:=⟨⟩
theorem hd.tw16878085327821582095:True:=⟨⟩
theorem hd.tw11440823792606528605:True:=⟨⟩
theorem hd.tw15198644448390510041:True:=⟨⟩
theorem hd.tw10726617239676247159:True:=⟨⟩
theorem hd.tw8504644779986281150:True:=⟨⟩
theorem hd.tw271443477459199484:True:=⟨⟩
theorem hd.tw6218055179211216702:True:=⟨⟩
theorem hd.tw2174524197302777523:True:=⟨⟩
theorem hd.tw16106001239028057125:True:=⟨⟩
theorem hd.tw3185149741582402694:True:=⟨⟩
theorem hd.tw17520449757698966511:True:=⟨⟩
theorem hd.tw11539604444309855720:True:=⟨⟩
theorem hd.tw10871027863787323966:True:=⟨⟩
theorem hd.tw4339817078481419469:True:=⟨⟩
theorem hd.tw5286337500982995262:True:=⟨⟩
theorem hd.tw13383502839670544141:True:=⟨⟩
theorem hd.tw17278503741040481022:True:=⟨⟩
theorem hd.tw14657947974731890689:True:=⟨⟩
theorem hd.tw16572567144891259519:True:=⟨⟩
theorem hd.tw4499219318700224116:True:=⟨⟩
theorem hd.tw18173563604753787143:True:=⟨⟩
theorem hd.tw4773511711125853529:True:=⟨⟩
theorem hd.tw10520872974917292129:True:=⟨⟩
theorem hd.tw5940898065452210607:True:=⟨⟩
theorem hd.tw647292114791117761:True:=⟨⟩
theorem hd.tw15280018219709535870:True:=⟨⟩
theorem hd.tw2864290327355636173:True:=⟨⟩
theorem hd.tw10624022552642246244:True:=⟨⟩
theorem hd.tw12550286885940052132:True:=⟨⟩
theorem hd.tw11643025013552946600:True:=⟨⟩
theorem hd.tw13453252383784718076:True:=⟨⟩
theorem hd.tw13986016176826977787:True:=⟨⟩
theorem hd.tw14633504089669753569:True:=⟨⟩
theorem hd.tw11285258246875485611:True:=⟨⟩
theorem hd.tw4061820792903176923:True:=⟨⟩
theorem hd.tw2251637051267632159:True:=⟨⟩
theorem hd.tw8665607310066765527:True:=⟨⟩
theorem hd.tw206066494823591183:True:=⟨⟩
theorem hd.tw9988638227807439413:True:=⟨⟩
theorem hd.tw13556513344986379141:True:=⟨⟩
theorem hd.tw10277754760442722318:True:=⟨⟩
theorem hd.tw14476489237557367740:True:=⟨⟩
theorem hd.tw11307991927854255249:True:=⟨⟩
theorem hd.tw13845761927060480359:True:=⟨⟩
theorem hd.tw6474186364501830945:True:=⟨⟩
theorem hd.tw3309444472067621411:True:=⟨⟩
theorem hd.tw15851398559984304006:True:=⟨⟩
theorem hd.tw5057112896871517184:True:=⟨⟩
theorem hd.tw4199721156765377308:True:=⟨⟩
theorem hd.tw138792604854394889:True:=⟨⟩
theorem hd.tw15762929675909586802:True:=⟨⟩
theorem hd.tw16195263532329997634:True:=⟨⟩
theorem hd.tw3398444037990233500:True:=⟨⟩
theorem hd.tw16707351486309698986:True:=⟨⟩
theorem hd.tw9112902790041095012:True:=⟨⟩
theorem hd.tw7878518307181560355:True:=⟨⟩
theorem hd.tw1935810687694468838:True:=⟨⟩
theorem hd.tw12687406971939802042:True:=⟨⟩
theorem hd.tw13730071884302255958:True:=⟨⟩
theorem hd.tw3116646777234039031:True:=⟨⟩
theorem hd.tw6206443925804023726:True:=⟨⟩
theorem hd.tw2954318821039139366:True:=⟨⟩
theorem hd.tw15993561313672661499:True:=⟨⟩
theorem hd.tw11456554797102400220:True:=⟨⟩
theorem hd.tw12276893174086656886:True:=⟨⟩
theorem hd.tw11841168911441897110:True:=⟨⟩
theorem hd.tw12137733467951122621:True:=⟨⟩
theorem hd.tw14143028096323019623:True:=⟨⟩
theorem hd.tw18267125538472722882:True:=⟨⟩
theorem hd.tw10693917204418681690:True:=⟨⟩
theorem hd.tw8203608698237142572:True:=⟨⟩
theorem hd.tw14140271084247490148:True:=⟨⟩
theorem hd.tw11833278638546872083:True:=⟨⟩
theorem hd.tw18295077224720544092:True:=⟨⟩
theorem hd.tw5226188610046495195:True:=⟨⟩
theorem hd.tw16960218157971840565:True:=⟨⟩
theorem hd.tw10191191213950909997:True:=⟨⟩
theorem hd.tw11613486508629898194:True:=⟨⟩
theorem hd.tw15181607892358283506:True:=⟨⟩
theorem hd.tw15146773802769846985:True:=⟨⟩
theorem hd.tw3302797282943808677:True:=⟨⟩
theorem hd.tw9074931948931168104:True:=⟨⟩
theorem hd.tw4316134699123934097:True:=⟨⟩
theorem hd.tw8457209659903197883:True:=⟨⟩
theorem hd.tw14195735067582393281:True:=⟨⟩
theorem hd.tw17561719779722561740:True:=⟨⟩
theorem hd.tw5337506312295868401:True:=⟨⟩
theorem hd.tw7333268392600324100:True:=⟨⟩
theorem hd.tw16090556942867729221:True:=⟨⟩
theorem hd.tw13186363643215950861:True:=⟨⟩
theorem hd.tw3928906936853312095:True:=⟨⟩
theorem hd.tw2361232091838506483:True:=⟨⟩
theorem hd.tw2767656643902572780:True:=⟨⟩
theorem hd.tw8276988777461026257:True:=⟨⟩
theorem hd.tw4027092381558136223:True:=⟨⟩
theorem hd.tw10433046716605523360:True:=⟨⟩
theorem hd.tw6458858335177848229:True:=⟨⟩
theorem hd.tw3628312736503783104:True:=⟨⟩
theorem hd.tw16977430203079011349:True:=⟨⟩
theorem hd.tw9601018249461945840:True:=⟨⟩
theorem hd.tw1334137818160446104:True:=⟨⟩
theorem hd.tw15307911247285763284:True:=⟨⟩
theorem hd.tw116182092205148897:True:=⟨⟩
theorem hd.tw4629481875478019387:True:=⟨⟩
theorem hd.tw7892528860779206226:True:=⟨⟩
theorem hd.tw6440954215981767560:True:=⟨⟩
theorem hd.tw14994479312426840219:True:=⟨⟩
theorem hd.tw18241738498508465833:True:=⟨⟩
theorem hd.tw6096611053578289005:True:=⟨⟩
theorem hd.tw9753622913577345852:True:=⟨⟩
theorem hd.tw9875271708764947881:True:=⟨⟩
theorem hd.tw595511082324842440:True:=⟨⟩
theorem hd.tw7711302472523195536:True:=⟨⟩
theorem hd.tw6310695606410692782:True:=⟨⟩
theorem hd.tw2136255793298033449:True:=⟨⟩
theorem hd.tw17537188423002628188:True:=⟨⟩
theorem hd.tw6274731836768533652:True:=⟨⟩
theorem hd.tw7255316368368367317:True:=⟨⟩
theorem hd.tw11830026491308745235:True:=⟨⟩
theorem hd.tw12718041043385420006:True:=⟨⟩
theorem hd.tw12632551460708238765:True:=⟨⟩
theorem hd.tw5537577435440210385:True:=⟨⟩
theorem hd.tw15072377637692963855:True:=⟨⟩
theorem hd.tw1420408149924526066:True:=⟨⟩
theorem hd.tw8748295799889466582:True:=⟨⟩
theorem hd.tw4052969942984352072:True:=⟨⟩
theorem hd.tw10244378687295762565:True:=⟨⟩
theorem hd.tw8546731881653566351:True:=⟨⟩
theorem hd.tw14772374994512099286:True:=⟨⟩
theorem hd.tw4889398840447319386:True:=⟨⟩
theorem hd.tw5826479028413888078:True:=⟨⟩
theorem hd.tw13478988906183276903:True:=⟨⟩
theorem hd.tw3931761576483924557:True:=⟨⟩
theorem hd.tw9112233717253100865:True:=⟨⟩
theorem hd.tw9045457142309728444:True:=⟨⟩
theorem hd.tw17012691783562557395:True:=⟨⟩
theorem hd.tw6754811963358816848:True:=⟨⟩
theorem hd.tw13283171480963289512:True:=⟨⟩
theorem hd.tw1944459932053354933:True:=⟨⟩
theorem hd.tw644992141636617842:True:=⟨⟩
theorem hd.tw6619565909467552245:True:=⟨⟩
theorem hd.tw11861438975549466919:True:=⟨⟩
theorem hd.tw14064086690127562740:True:=⟨⟩
theorem hd.tw17194914999818455083:True:=⟨⟩
theorem hd.tw714229132332156539:True:=⟨⟩
theorem hd.tw14275484386983094002:True:=⟨⟩
theorem hd.tw9702651010965168632:True:=⟨⟩
theorem hd.tw15757149744176520741:True:=⟨⟩
theorem hd.tw13331222023201536880:True:=⟨⟩
theorem hd.tw3782967237711510076:True:=⟨⟩
theorem hd.tw17409924416503912368:True:=⟨⟩
theorem hd.tw2524917424465753309:True:=⟨⟩
theorem hd.tw6209252639149440915:True:=⟨⟩
theorem hd.tw112701154400781115:True:=⟨⟩
theorem hd.tw18195713022237258158:True:=⟨⟩
theorem hd.tw8332456863217097949:True:=⟨⟩
theorem hd.tw11831078908316498014:True:=⟨⟩
theorem hd.tw8536672437681187345:True:=⟨⟩
theorem hd.tw5366769267454120019:True:=⟨⟩
theorem hd.tw15437705804415595268:True:=⟨⟩
theorem hd.tw17204221560967208506:True:=⟨⟩
theorem hd.tw6860299349471284957:True:=⟨⟩
theorem hd.tw13351420102001092256:True:=⟨⟩
theorem hd.tw5747004429342952461:True:=⟨⟩
theorem hd.tw16802806273112905882:True:=⟨⟩
theorem hd.tw11583529390224993531:True:=⟨⟩
theorem hd.tw4633489348816807794:True:=⟨⟩
theorem hd.tw2722458975930361472:True:=⟨⟩
theorem hd.tw6301120104765217943:True:=⟨⟩
theorem hd.tw6359137571896671851:True:=⟨⟩
theorem hd.tw273652418078431757:True:=⟨⟩
theorem hd.tw17174966302739777867:True:=⟨⟩
theorem hd.tw7577091538914223171:True:=⟨⟩
theorem hd.tw6598037444900480629:True:=⟨⟩
theorem hd.tw7895310518405296332:True:=⟨⟩
theorem hd.tw933163365288275381:True:=⟨⟩
theorem hd.tw7605103618832184432:True:=⟨⟩
theorem hd.tw17644731625878279879:True:=⟨⟩
theorem hd.tw15014114396933662994:True:=⟨⟩
theorem hd.tw17646210288129009043:True:=⟨⟩
theorem hd.tw16535848257295347262:True:=⟨⟩
theorem hd.tw3942347491833987960:True:=⟨⟩
theorem hd.tw474946454945705649:True:=⟨⟩
theorem hd.tw5666976885364797902:True:=⟨⟩
theorem hd.tw7251270313756834114:True:=⟨⟩
theorem hd.tw9871111372581098024:True:=⟨⟩
theorem hd.tw4202091985674454202:True:=⟨⟩
theorem hd.tw4244046590112069618:True:=⟨⟩
theorem hd.tw14643911843916084043:True:=⟨⟩
theorem hd.tw12159285511706917099:True:=⟨⟩
theorem hd.tw13519970095566733541:True:=⟨⟩
theorem hd.tw1582507436644669013:True:=⟨⟩
theorem hd.tw4387242490633481345:True:=⟨⟩
theorem hd.tw3530585485322289916:True:=⟨⟩
theorem hd.tw10260360840535069176:True:=⟨⟩
theorem hd.tw13873448610385142910:True:=⟨⟩
theorem hd.tw1998392491961209759:True:=⟨⟩
theorem hd.tw5330193021624687135:True:=⟨⟩
theorem hd.tw11759915927260100207:True:=⟨⟩
theorem hd.tw13262673905916323550:True:=⟨⟩
theorem hd.tw9160671838158708710:True:=⟨⟩
theorem hd.tw9978293195663921879:True:=⟨⟩
theorem hd.tw8903093293774669432:True:=⟨⟩
theorem hd.tw11219206453021619790:True:=⟨⟩
theorem hd.tw6045379304373702833:True:=⟨⟩
theorem hd.tw12451101039317168942:True:=⟨⟩
theorem hd.tw3240121083385184691:True:=⟨⟩
theorem hd.tw747615036277205903:True:=⟨⟩
theorem hd.tw10904296797618104356:True:=⟨⟩
theorem hd.tw12012429939292699764:True:=⟨⟩
theorem hd.tw14264200124072254951:True:=⟨⟩
theorem hd.tw9933157163433993857:True:=⟨⟩
theorem hd.tw17845266777082965560:True:=⟨⟩
theorem hd.tw12646502529755585390:True:=⟨⟩
theorem hd.tw1801146077513586871:True:=⟨⟩
theorem hd.tw7032118936185982711:True:=⟨⟩
theorem hd.tw6707881611059264863:True:=⟨⟩
theorem hd.tw880987541280845001:True:=⟨⟩
theorem hd.tw1030106794152217436:True:=⟨⟩
theorem hd.tw7429978329347170747:True:=⟨⟩
theorem hd.tw1585378345928290936:True:=⟨⟩
theorem hd.tw13067641068320269227:True:=⟨⟩
theorem hd.tw16146898740410796120:True:=⟨⟩
theorem hd.tw14767496285257957235:True:=⟨⟩
theorem hd.tw14571351451704709667:True:=⟨⟩
theorem hd.tw17696933379891516485:True:=⟨⟩
theorem hd.tw8330484282428205751:True:=⟨⟩
theorem hd.tw1369552494348414750:True:=⟨⟩
theorem hd.tw6718276961895212805:True:=⟨⟩
theorem hd.tw3163963280790853899:True:=⟨⟩
theorem hd.tw12773972654373492243:True:=⟨⟩
theorem hd.tw2157308091711421958:True:=⟨⟩
theorem hd.tw13947384569722859964:True:=⟨⟩
theorem hd.tw10007153194252457426:True:=⟨⟩
theorem hd.tw4922310099063904655:True:=⟨⟩
theorem hd.tw3116914929705449925:True:=⟨⟩
theorem hd.tw11879438457355795181:True:=⟨⟩
theorem hd.tw8302960659365872665:True:=⟨⟩
theorem hd.tw8181573325311712785:True:=⟨⟩
theorem hd.tw9493204841366819308:True:=⟨⟩
theorem hd.tw2945252625585877330:True:=⟨⟩
theorem hd.tw6393383771454446530:True:=⟨⟩
theorem hd.tw6509378151769863310:True:=⟨⟩
theorem hd.tw3397210593846486484:True:=⟨⟩
theorem hd.tw2926595250973112825:True:=⟨⟩
theorem hd.tw7916157998531693636:True:=⟨⟩
theorem hd.tw7206527910663909554:True:=⟨⟩
theorem hd.tw695926995206455893:True:=⟨⟩
theorem hd.tw9419075074508001046:True:=⟨⟩
theorem hd.tw12267005323435581745:True:=⟨⟩
theorem hd.tw5419399945201804921:True:=⟨⟩
theorem hd.tw9900569420030052621:True:=⟨⟩
theorem hd.tw12301293378121053882:True:=⟨⟩
theorem hd.tw15037785373518786171:True:=⟨⟩
theorem hd.tw3684270963330863087:True:=⟨⟩
theorem hd.tw437406137448235079:True:=⟨⟩
theorem hd.tw6296619685372109989:True:=⟨⟩
theorem hd.tw16862201241425694280:True:=⟨⟩
theorem hd.tw8147176031852548599:True:=⟨⟩
theorem hd.tw1235747531668466524:True:=⟨⟩
theorem hd.tw6953526725494288265:True:=⟨⟩
theorem hd.tw3061462525033495512:True:=⟨⟩
theorem hd.tw18125358385784173757:True:=⟨⟩
theorem hd.tw4495025451336390038:True:=⟨⟩
theorem hd.tw1382940369321981858:True:=⟨⟩
theorem hd.tw716667116823175160:True:=⟨⟩
theorem hd.tw17482413333929821479:True:=⟨⟩
theorem hd.tw6369813701750874427:True:=⟨⟩
theorem hd.tw15083110984062290639:True:=⟨⟩
theorem hd.tw15086221626174625211:True:=⟨⟩
theorem hd.tw4795050117146488019:True:=⟨⟩
theorem hd.tw11621151872581885403:True:=⟨⟩
theorem hd.tw5865091050505765446:True:=⟨⟩
theorem hd.tw4850912467750334399:True:=⟨⟩
theorem hd.tw1742329891774765379:True:=⟨⟩
theorem hd.tw5547455520468372491:True:=⟨⟩
theorem hd.tw12833505981680656469:True:=⟨⟩
theorem hd.tw11451886011181238924:True:=⟨⟩
theorem hd.tw769950621297424858:True:=⟨⟩
theorem hd.tw9458267691729542250:True:=⟨⟩
theorem hd.tw8609135553163273375:True:=⟨⟩
theorem hd.tw6109277544424318428:True:=⟨⟩
theorem hd.tw2235801105807285200:True:=⟨⟩
theorem hd.tw4022374982000158307:True:=⟨⟩
theorem hd.tw12808621727614496636:True:=⟨⟩
theorem hd.tw8893858173425306851:True:=⟨⟩
theorem hd.tw8670752659763694660:True:=⟨⟩
theorem hd.tw14634458496415437378:True:=⟨⟩
theorem hd.tw7926493886292766918:True:=⟨⟩
theorem hd.tw3730087708555649945:True:=⟨⟩
noncomputable def Lone:Prop:=True
theorem Oc(_:PySem.Challenge.rw_sa0035_01.Holds):Lone=True:=rfl
set_option Elab.async true
theorem hd:Lone/\True:=by
 simp (disch:=(with_unfolding_all (w_on;o_law;k_head;(case hw=>w_witness2)))) only [Oc,and_true];exact trivial
set_option Elab.async false
noncomputable def keys:List Addr:=[2,3,15,17,18,20,21,29,31,32,34,35,36,38,39,41,42,43,44,45,46,47,57,59,60,62,63,64,66,67,69,70,71,73,74,76,77,78,80,81,83,84,85,88,89,90,93,94,95,98,99,100,102,103,105,106,107,108,109,110,111,114,117,122,123,125,126,128,129,130,132,133,135,136,137,138,139,140,143,150,151,152,155,158,159,160,163,164,172,174,175,177,178,179,181,182,184,185,186,189,190,191,193,194,196,197,198,200,201,203,204,205,208,209,210,212,213,215,216,217,219,220,222,223,224,226,227,229,230,231,233,234,236,237,238,241,242,243,245,246,248,249,250,252,253,255,256,257,259,260,262,263,264,265,266,267,268,278,280,281,283,284,285,287,288,290,291,292,294,295,297,298,299,301,302,304,305,306,308,309,311,312,313,315,316,318,319,320,323,324,325,327,328,330,331,332,334,335,337,338,339,341,342,344,345,346,347,348,349,350,360,362,363,365,366,367,369,370,372,373,374,377,378,379,382,383,384,387,388,389,391,392,394,395,396,398,399,401,402,403,405,406,408,409,410,412,413,415,416,417,419,420,422,423,424,426,427,429,430,431,433,434,436,437,438,440,441,443,444,445,447,448,450,451,452,455,456,457,459,460,462,463,464,467,468,469,471,472,474,475,476,477,478,479,480,483,484,485,487,488,490,491,492,494,495,497,498,499,501,502,504,505,506,509,510,511,514,515,516,519,520,521,524,525]
noncomputable abbrev row:OpenRow:=PySem.Challenge.rw_sa0035_01.row
noncomputable def hook:Hook:=kmHook hd.heap_1_39 keys (λ_=>by kernel_rfl) [522]
theorem hd_left:LeftO row.prog hd.view_1_40 [] (λs=>xlAt hd.view_1_40 [] s&&recOk (RowW.records row.toRowW) s) hook.obs hook.val 7058 :=
 LeftO.of_pieces (boot_open hd._proof_1_43 (by rfl) hd._proof_1_44) hd._proof_1_790 hd._proof_1_788 (by decide) (λw=>funext λos=>hd._proof_1_821 w os)
end Kp.Internal
namespace Kp.Internal
abbrev Ka:=@List.getElem?_eq_getElem
abbrev Kb:=@List.getElem?_eq_some_iff
abbrev Kc:=@Nat.le_of_eq
abbrev Kd:=@List.size_toArray
abbrev Ke:=@PySem.Heap.get?_push_of_some
abbrev Kf:=@List.mem_singleton
abbrev Kg:=@Nat.le_of_ble_eq_true
abbrev Kh:=@List.getD_eq_getElem?_getD
abbrev Ki:=@List.length_append
abbrev Kj:=@List.length_singleton
abbrev Kk:=@Nat.mul_le_mul_left
abbrev Kl:=@PySem.Heap.get?_push_size
abbrev Km:=@Nat.not_succ_le_zero
abbrev Kn:=@Bool.false_ne_true
abbrev Ko:=@List.mem_append
abbrev Kq:=@Nat.le_add_left
abbrev Kr:=@List.mem_map
abbrev Ks:=@Nat.le_trans
abbrev Kt:=@Nat.zero_le
abbrev Ku:=@Nat.le_antisymm
abbrev Kv:=@Nat.succ_pos
abbrev Kw:=@List.mem_cons
abbrev Kx:=@List.mem_of_getElem?
abbrev Ky:=@List.getElem_mem
abbrev Kz:=@Nat.le_refl
abbrev K1:=@Nat.lt_of_le_of_lt
abbrev K2:=@List.map_append
abbrev K3:=@Nat.not_lt
abbrev K4:=@Nat.not_lt_zero
abbrev K5:=@Nat.le_of_lt
abbrev K6:=@Nat.ne_of_lt
abbrev K7:=@Array.length_toList
abbrev K8:=@List.mem_range
abbrev K9:=@List.mem_iff_getElem?
abbrev La:=@PySem.Heap.lt_size
abbrev Lb:=@Nat.lt_of_le_of_ne
abbrev Lc:=@List.lookup_cons
abbrev Ld:=@Nat.add_le_add
abbrev Le:=@PySem.Heap.get?_update_self
abbrev Lf:=@List.getElem?_map
abbrev Lg:=@Nat.min_le_left
abbrev Lh:=@Nat.lt_of_lt_of_le
abbrev Li:=@PySem.Heap.get?_update_other
abbrev Lj:=@List.length_cons
abbrev Lk:=@List.length_eq_zero_iff
abbrev Ll:=@List.pairwise_singleton
abbrev Ln:=@Nat.lt_succ_self
abbrev Lp:=@List.find?_cons_of_neg
abbrev Lq:=@Nat.le_succ
abbrev Lr:=@List.not_mem_nil
abbrev Ls:=@Nat.le_of_lt_succ
abbrev Lu:=@List.take_add_one
abbrev Lv:=@Int.ofNat_lt
abbrev Lx:=@Int.toNat_natCast
abbrev Ly:=@Nat.ne_of_gt
abbrev Lz:=@Nat.lt_succ_of_lt
abbrev L0:=@Nat.lt_irrefl
abbrev L3:=@List.nodup_nil
abbrev L6:=@List.mem_filter
abbrev L8:=@Nat.min_le_right
abbrev L9:=@Nat.succ_le_succ
abbrev Ma:=@Array.getD_eq_getD_getElem?
abbrev Mb:=@Nat.min_eq_left
abbrev Mc:=@List.take_length
abbrev Md:=@List.countP_cons
abbrev Me:=@List.mem_iff_getElem
abbrev Mf:=@Nat.lt_trans
abbrev Mg:=@List.find?_cons_of_pos
abbrev Mh:=@List.length_filter_le
abbrev Mi:=@Array.getElem?_eq_getElem
abbrev Mj:=@List.getElem?_append_left
abbrev Mk:=@List.map_congr_left
abbrev Ml:=@Nat.le_of_not_lt
abbrev Mm:=@Nat.le_add_right
abbrev Mn:=@Nat.succ_ne_self
abbrev Mo:=@Int.natCast_nonneg
abbrev Mq:=@Int.ofNat_le
abbrev Mr:=@Nat.le_max_left
abbrev Ms:=@Nat.max_eq_left
abbrev Mt:=@List.lookup_cons_self
abbrev Mu:=@Nat.le_succ_of_le
abbrev Mv:=@List.length_range
abbrev Mw:=@List.countP_congr
abbrev Mx:=@List.getElem?_inj
abbrev My:=@Bool.and_eq_true_iff
abbrev Mz:=@List.mem_of_mem_take
abbrev M0:=@Nat.min_eq_right
abbrev M1:=@Nat.max_eq_right
abbrev M2:=@List.ext_getElem
abbrev M3:=@List.length_take
abbrev M5:=@List.exists_cons_of_length_eq_add_one
abbrev M6:=@Option.isSome_iff_exists
abbrev M7:=@List.map_cons
abbrev M8:=@List.nodup_cons
abbrev M9:=@Array.forIn_toList
abbrev Va:=@List.map_inj_right
abbrev Vb:=@List.findIdx?_eq_some_iff_getElem
abbrev Vc:=@List.length_pos_of_mem
abbrev Vd:=@Nat.lt_of_succ_lt_succ
abbrev Ve:=@Array.toList_push
abbrev Vf:=@PySem.SetTable.insertAt_perm
abbrev Vg:=@List.take_succ_eq_append_getElem
abbrev Vh:=@List.mem_append_right
abbrev Vi:=@Nat.le_max_right
abbrev Vj:=@List.mem_append_left
abbrev Vk:=@List.mem_of_mem_drop
abbrev Vl:=@List.range_succ
abbrev Vm:=@List.length_map
abbrev Vn:=@List.length_set
abbrev Vo:=@Int.le_of_eq
abbrev Vp:=@List.map_map
abbrev Vq:=@Nat.not_le
abbrev Vr:=@Nat.max_lt
abbrev Vt:=@Nat.lt_or_eq_of_le
abbrev Vu:=@PySem.Heap.size_push
abbrev Vv:=@Array.size_map
abbrev Vw:=@List.filter_congr
abbrev Vx:=@Bool.true_and
abbrev Vy:=@Nat.mod_lt
abbrev Vz:=@Nat.lt_or_ge
@[elab_as_elim] theorem ae{α:Sort u}{a b:α}{motive:α->Prop}(h:a=b)(m:motive b):motive a:=h▸m
@[elab_as_elim] theorem aR{α:Sort u}{a b:α}{motive:α->Prop}(h:b=a)(m:motive b):motive a:=h▸m
@[elab_as_elim] theorem gen{α:Sort u}{motive:α->Prop}(a:α)(h:∀x,motive x):motive a:=h a
@[elab_as_elim] theorem Cp{α:Sort u}{motive:α->Prop}(a:α)(h:∀x,a=x->motive x):motive a:=h a rfl
theorem aB{α:Sort u}{p:α->Prop}{G:Prop}(h:∃x,p x)(k:∀x,p x->G):G:=h.elim k
theorem bE{p q G:Prop}(h:p/\q)(k:p->q->G):G:=k h.1 h.2
theorem zt{α:Sort u}{p q:α->Prop}{G:Prop}(h:∃x,p x/\q x)(k:∀x,p x->q x->G):G:=h.elim λx i=>k x i.1 i.2
theorem Ja{α:Sort u}{β:α->Sort v}{p:(a:α)->β a->Prop}{G:Prop}(h:∃x y,p x y)(k:∀x y,p x y->G):G:=h.elim λx i=>i.elim (k x)
theorem JR{p q r G:Prop}(h:p/\q/\r)(k:p->q->r->G):G:=k h.1 h.2.1 h.2.2
theorem Hm{α:Sort u}{q G:Prop}{p:α->Prop}(h:q/\∃x,p x)(k:q->∀x,p x->G):G:=h.2.elim (k h.1)
theorem qY{α:Sort u}{p q r:α->Prop}{G:Prop}(h:∃x,p x/\q x/\r x)(k:∀x,p x->q x->r x->G):G:=h.elim λx i=>k x i.1 i.2.1 i.2.2
theorem Bg{α:Sort u}{β:Sort v}{p q:α->β->Prop}{G:Prop}(h:∃x y,p x y/\q x y)(k:∀x y,p x y->q x y->G):G:=h.elim λx i=>i.elim λy j=>k x y j.1 j.2
theorem Hn{p q r s G:Prop}(h:p/\q/\r/\s)(k:p->q->r->s->G):G:=k h.1 h.2.1 h.2.2.1 h.2.2.2
theorem GB{α:Sort u}{o G:Prop}{p q:α->Prop}(h:o/\∃x,p x/\q x)(k:o->∀x,p x->q x->G):G:=h.2.elim λx i=>k h.1 x i.1 i.2
theorem Od{α:Sort u}{p q r s:α->Prop}{G:Prop}(h:∃x,p x/\q x/\r x/\s x)(k:∀x,p x->q x->r x->s x->G):G:=h.elim λx i=>k x i.1 i.2.1 i.2.2.1 i.2.2.2
theorem jg{α:Sort u}{β:Sort v}{p q r:α->β->Prop}{G:Prop}(h:∃x y,p x y/\q x y/\r x y)(k:∀x y,p x y->q x y->r x y->G):G:=h.elim λx i=>i.elim λy j=>k x y j.1 j.2.1 j.2.2
theorem Zh{α:Sort u}{β:Sort v}{γ:Sort w}{p q:α->β->γ->Prop}{G:Prop}(h:∃x y z,p x y z/\q x y z)(k:∀x y z,p x y z->q x y z->G):G:=h.elim λx i=>i.elim λy j=>j.elim λz l=>k x y z l.1 l.2
theorem Xu{p q r s t G:Prop}(h:p/\q/\r/\s/\t)(k:p->q->r->s->t->G):G:=k h.1 h.2.1 h.2.2.1 h.2.2.2.1 h.2.2.2.2
noncomputable def Cq:Nat->List Nat->Lean.RArray Nat
 | _,[]=>.leaf 0
 | _,[a]=>.leaf a
 | i,a::l=>.branch (i+1) (.leaf a) (Cq (i+1) l)
noncomputable abbrev dn:=Nat.Internal.Linear.Expr
noncomputable abbrev aw(k:Nat):dn:=.num k
noncomputable abbrev aq(a b:dn):dn:=.add a b
noncomputable abbrev ai(a:dn):dn:=.add a (.num 1)
noncomputable abbrev aF(k:Nat)(a:dn):dn:=.mulL k a
noncomputable abbrev Ho(a:dn)(k:Nat):dn:=.mulR a k
noncomputable abbrev af:dn:=.var 0
noncomputable abbrev ag:dn:=.var 1
noncomputable abbrev ak:dn:=.var 2
noncomputable abbrev au:dn:=.var 3
noncomputable abbrev aT:dn:=.var 4
noncomputable abbrev cn:dn:=.var 5
noncomputable abbrev dI:dn:=.var 6
noncomputable abbrev kg:dn:=.var 7
noncomputable abbrev bF(c:List Nat)(e:dn):Nat:=e.denote (Cq 0 c)
noncomputable abbrev pN(l r:dn):Bool:=(Nat.Internal.Linear.ExprCnstr.mk false l r).toNormPoly.isValid
theorem dF(c:List Nat)(l r:dn)(u:pN l r=true):bF c l<=bF c r:=of_eq_true (Nat.Internal.Linear.ExprCnstr.eq_true_of_isValid (Cq 0 c) ⟨false,l,r⟩ u)
theorem aN(c:List Nat)(l r a b:dn)(u:pN (aq l b) (aq r a)=true)(h:bF c a<=bF c b):bF c l<=bF c r:=Nat.le_of_add_le_add_right (Ks (dF c (aq l b) (aq r a) u) (Nat.add_le_add_left h _))
theorem aK(c:List Nat)(l r a0 b0 a1 b1:dn)(u:pN (aq l (aq b0 b1)) (aq r (aq a0 a1))=true)(h0:bF c a0<=bF c b0)(h1:bF c a1<=bF c b1):bF c l<=bF c r:=aN c l r (aq a0 a1) (aq b0 b1) u (Ld h0 h1)
theorem bH(c:List Nat)(l r a0 b0 a1 b1 a2 b2:dn)(u:pN (aq l (aq b0 (aq b1 b2))) (aq r (aq a0 (aq a1 a2)))=true)(h0:bF c a0<=bF c b0)(h1:bF c a1<=bF c b1)(h2:bF c a2<=bF c b2):bF c l<=bF c r:=aN c l r (aq a0 (aq a1 a2)) (aq b0 (aq b1 b2)) u (Ld h0 (Ld h1 h2))
theorem eJ(c:List Nat)(l r a0 b0 a1 b1 a2 b2 a3 b3:dn)(u:pN (aq l (aq b0 (aq b1 (aq b2 b3)))) (aq r (aq a0 (aq a1 (aq a2 a3))))=true)(h0:bF c a0<=bF c b0)(h1:bF c a1<=bF c b1)(h2:bF c a2<=bF c b2)(h3:bF c a3<=bF c b3):bF c l<=bF c r:=aN c l r (aq a0 (aq a1 (aq a2 a3))) (aq b0 (aq b1 (aq b2 b3))) u (Ld h0 (Ld h1 (Ld h2 h3)))
theorem Hp(c:List Nat)(l r a0 b0 a1 b1 a2 b2 a3 b3 a4 b4:dn)(u:pN (aq l (aq b0 (aq b1 (aq b2 (aq b3 b4))))) (aq r (aq a0 (aq a1 (aq a2 (aq a3 a4)))))=true)(h0:bF c a0<=bF c b0)(h1:bF c a1<=bF c b1)(h2:bF c a2<=bF c b2)(h3:bF c a3<=bF c b3)(h4:bF c a4<=bF c b4):bF c l<=bF c r:=aN c l r (aq a0 (aq a1 (aq a2 (aq a3 a4)))) (aq b0 (aq b1 (aq b2 (aq b3 b4)))) u (Ld h0 (Ld h1 (Ld h2 (Ld h3 h4))))
theorem Oe(c:List Nat)(l r a0 b0 a1 b1 a2 b2 a3 b3 a4 b4 a5 b5:dn)(u:pN (aq l (aq b0 (aq b1 (aq b2 (aq b3 (aq b4 b5)))))) (aq r (aq a0 (aq a1 (aq a2 (aq a3 (aq a4 a5))))))=true)(h0:bF c a0<=bF c b0)(h1:bF c a1<=bF c b1)(h2:bF c a2<=bF c b2)(h3:bF c a3<=bF c b3)(h4:bF c a4<=bF c b4)(h5:bF c a5<=bF c b5):bF c l<=bF c r:=aN c l r (aq a0 (aq a1 (aq a2 (aq a3 (aq a4 a5))))) (aq b0 (aq b1 (aq b2 (aq b3 (aq b4 b5))))) u (Ld h0 (Ld h1 (Ld h2 (Ld h3 (Ld h4 h5)))))
theorem ig(a b:Nat):a<=a - b+b:=Nat.sub_le_iff_le_add.mp (Kz _)
theorem kh{a b:Nat}(h:b<=a):a - b+b<=a:=Kc (Nat.sub_add_cancel h)
theorem Cr(a:Nat):2*(a / 2)<=a:=Nat.mul_div_le a 2
theorem Ct(a:Nat):a<=2*(a / 2)+1:=Ls (Nat.lt_mul_div_succ a (Kv 1))
theorem Cu{c d:Nat}(h:c≠d):min c d<max c d:=(Nat.lt_or_gt_of_ne h).elim (λe=>K1 (Lg c d) (Lh e (Vi c d))) λe=>K1 (L8 c d) (Lh e (Mr c d))
theorem Og{a b c:Nat}(h:¬(c<=b)):((a+1)+b)<=(a+c):=aN [b,c,a] (aq (ai ak) af) (aq ak ag) (ai af) ag rfl (Vq.mp h)
theorem Oh{a b c m:Nat}(h:a<=((c+1)+b))(h1:(b+a)<=((2*m)+1)):a<=(c+(m+1)):=K3.mp λn=>Km 0 (bH [a,c,b,m] (aw 1) (aw 0) af (aq (ai ag) ak) (aq ak af) (ai (aF 2 au)) (aF 2 (ai (aq ag (ai au)))) (aF 2 af) rfl h h1 (Kk 2 n))
theorem Oi{a b c:Nat}(h:b<c)(h1:(b+(a+(c-b)))<=3000):((b+1)+(a+(c-(b+1))))<=3000:=bH [b,c,a,(c-b),(c-(b+1))] (aq (ai af) (aq ak aT)) (aw 3000) (aq af (aq ak au)) (aw 3000) ag (aq au af) (aq aT (ai af)) ag rfl h1 (ig _ _) (kh (aN [b,c,a,(c-b),(c-(b+1))] (ai af) ag (ai af) ag rfl h))
theorem Oj{a b c d:Nat}(h:(a+1)<=c)(h1:b<=d):((a+b)+1)<=(c+d):=aK [a,c,b,d] (ai (aq af ak)) (aq ag au) (ai af) ag ak au rfl h h1
theorem Xv{a b:Nat}(h:(b*3)<=(a*5))(h1:7<=b):4<a:=K3.mp λn=>Km 0 (bH [b,a] (aw 1) (aw 0) (Ho af 3) (Ho ag 5) (aF 3 (aw 7)) (aF 3 af) (aF 5 (ai ag)) (aF 5 (ai (aw 4))) rfl h (Kk 3 h1) (Kk 5 n))
theorem Hq{a b:Nat}(h:(5*a)<(3*b))(h1:b<=63):a<=16777216:=K3.mp λn=>Km 0 (bH [a,b] (aw 1) (aw 0) (ai (aF 5 af)) (aF 3 ag) (aF 3 ag) (aF 3 (aw 63)) (aF 5 (ai (aw 16777216))) (aF 5 af) rfl h (Kk 3 h1) (Kk 5 n))
theorem Ol{a b c r s:Nat}(h:b<=12)(h1:(c+r)<=3000)(h2:s<=b)(h3:a<=(s+(c+1))):a<=1000000:=eJ [b,c,r,s,a] aT (aw 1000000) af (aw 12) (aq ag ak) (aw 3000) au af aT (aq au (ai ag)) rfl h h1 h2 h3
theorem Hr{a b c:Nat}(h:(5*a)<(3*c))(h1:c<=63)(h2:b=4096):a<b:=K3.mp λn=>Km 0 (eJ [a,c,b] (aw 1) (aw 0) (ai (aF 5 af)) (aF 3 ag) (aF 3 ag) (aF 3 (aw 63)) (aF 5 (aw 4096)) (aF 5 ak) (aF 5 (ai ak)) (aF 5 (ai af)) rfl h (Kk 3 h1) (Kk 5 (Kc h2.symm)) (Kk 5 n))
theorem Bh{α:Type u}[BEq α][ReflBEq α]{a:α}:¬((a != a)=true):=by simp[bne]
theorem bla{a c:Nat}(h:a<c)(h1:c<=1000):a<2^62:=Mf (Lh h h1) (by decide)
theorem Cv{a c:Nat}(h:a<=c)(h1:c<=12):a<2^62:=K1 (Ks h h1) (by decide)
theorem df{a c:Nat}(h:a<c)(h1:c<=12):a<2^62:=Cv (K5 h) h1
theorem JS{a c:Nat}(h:a=c)(h1:c<=12):a<2^62:=Cv (Kc h) h1
theorem tu{a:Nat}(h:a<=1000000):a<2^62:=K1 h (by decide)
theorem oV{k:Nat}(h:k<2^62):(k:Int)<2^63:=Int.lt_trans (Lv.mpr h) (by decide)
theorem Cw{k:Nat}:-(2^63:Int)<=(k:Int):=Int.le_trans (by decide) (Mo k)
theorem Cx{a c:Nat}(h:a=c)(h1:c<12):a<=1000000:=Ks (Kc h) (K5 (Mf h1 (by decide)))
theorem Om{a b c:Nat}(h:a<=b)(h1:a+(c+(b-a))<=3000):b<=3000:=Ks (Kc (Nat.add_sub_of_le h).symm) (Ks (Nat.add_le_add_left (Kq ..) a) h1)
theorem Oo(a b:Nat):(if (b:Int)<a then(b:Int) else a)=((min a b:Nat):Int):=by
 split
 ·rename_i h;exact congrArg _ (M0 (K5 (Lv.mp h))).symm
 ·rename_i h;exact congrArg _ (Mb (Mq.mp (Int.not_lt.mp h))).symm
theorem Oq(a b:Nat):(if (b:Int)>a then(b:Int) else a)=((max a b:Nat):Int):=by
 split
 ·rename_i h;exact congrArg _ (M1 (K5 (Lv.mp h))).symm
 ·rename_i h;exact congrArg _ (Ms (Mq.mp (Int.not_lt.mp h))).symm
theorem Cy{a:Int}(h:0<=a):a=((a.toNat:Nat):Int):=(Int.toNat_of_nonneg h).symm
theorem zS(h:a<=c)(h1:Nat.ble (c+1) b=true):a<=b:=Ks h (K5 (Kg h1))
theorem z9(h:a=c)(h1:c<=d)(h2:Nat.ble (d+1) b=true):a<=b:=Ks (h▸h1) (K5 (Kg h2))
theorem aM{a b c:Nat}(h:a<c)(h1:b=c):a<b:=h1▸h
theorem jx{a b c:Nat}(h:a<c)(h1:c=b):a<b:=h1▸h
theorem jZ(h:Nat.ble (a+1) b=true):a<=b:=K5 (Kg h)
theorem bX{a b c:Nat}(h:a<=c)(h1:c<=b):a<=b:=Ks h h1
theorem qZ(h:a<(b+1))(h1:¬(a<b)):a=b:=Ku (Ls h) (K3.mp h1)
theorem q6(h:Nat.ble (b+1) c=true):(min a b)<=c:=Ks (L8 _ _) (K5 (Kg h))
theorem xB(h:a<(b+1))(h1:¬(a=b)):a<b:=Lb (Ls h) h1
theorem wo{a b c:Nat}(h:a<=c)(h1:c<b):a<b:=K1 h h1
theorem xh(h:a<b):a<(b+1):=Lz h
theorem xL(h:a<=c)(h1:c<=d)(h2:Nat.ble (d+1) b=true):a<=b:=Ks h (Ks h1 (K5 (Kg h2)))
theorem gZ{a b:Nat}(h:¬(b<a)):a<=b:=Ml h
theorem g0(h:(a+20)<b):(a+1)<b:=Lh (Nat.add_lt_add_left (by decide) _) (K5 h)
theorem Zi{a b:Nat}(h:a<b):¬(a=b):=K6 h
theorem Zj{a b c:Nat}(h:a<c)(h1:c<b):a<b:=Mf h h1
theorem Zk(h:a<(b+1))(h1:b=c)(h2:¬(a<b)):a=b:=Ku (aN [a,b,c] af ag (ai af) (ai ag) rfl h) (aN [a,b,c] ag af ag af rfl (K3.mp h2))
theorem Zl(h:a<c)(h1:Nat.ble (c+1) b=true):(a+1)<=b:=Ks h (K5 (Kg h1))
theorem JT(h:a<=b):a<=(b+1):=Mu h
theorem JU(h:a<=c)(h1:Nat.ble (c+1) b=true):(a+1)<=b:=K1 h (Kg h1)
theorem Xw(h:a=(b+1)):0<a:=h▸Kv _
theorem JV(h:a=c)(h1:c=d)(h2:d<=e)(h3:Nat.ble (e+1) b=true):a<=b:=Ks (h▸h1▸h2) (K5 (Kg h3))
theorem Xx(h:(a+(c*d))<=e)(h1:Nat.ble (e+1) b=true):a<b:=aK [a,(c*d),e,b] (ai af) au (aq af ag) ak (ai ak) au rfl h (Kg h1)
theorem Xy(h:a<c)(h1:Nat.ble (c+1) b=true):a<=b:=K5 (Mf h (Kg h1))
theorem Ot(h:(a-1)=c)(h1:Nat.ble (c+1) b=true):¬(a>b):=K3.mpr (bH [(a-1),c,b,a] au ak af ag (ai ag) ak au (aq af (aw 1)) rfl (Kc h) (Kg h1) (ig _ _))
theorem Ou(h:a=c)(h1:Nat.ble (c+1) b=true):a<=b:=Ks (Kc h) (K5 (Kg h1))
theorem Xz(h:a<=0):a=0:=Nat.le_zero.mp h
theorem XA(h:¬(a=b)):((a:Nat):Int)≠((b:Nat):Int):=λx=>h (Int.ofNat.inj x)
theorem g6{a b c:Nat}(h:a=(max b c)):(a=b)\/(a=c):=(Nat.le_total b c).elim (λe=>.inr (h.trans (M1 e))) λe=>.inl (h.trans (Ms e))
theorem XB(h:a<(c+1))(h1:a<c)(h2:b=c):a<b:=aK [a,c,b] (ai af) ak (ai af) ag ag ak rfl h1 (Kc h2.symm)
theorem XC(h:¬(a=b)):¬(((a:Nat):Int)=((b:Nat):Int)):=λx=>h (Int.ofNat.inj x)
theorem Cz(h:a<=b):(a+1)<=(b+1):=L9 h
theorem XD(h:(a+b)<=c):(a+(b+1))<=(c+1):=L9 h
theorem CA{a b:Nat}(h:b<a)(h1:b<=a):(a-(b+1))<(a-b):=aK [b,a,(a-(b+1)),(a-b)] (ai ak) au (aq ak (ai af)) ag ag (aq au af) rfl (kh (aN [b,a,(a-(b+1)),(a-b)] (ai af) ag (ai af) ag rfl h)) (ig _ _)
theorem CB{a b:Nat}(h:a<=b)(h1:¬(a<b)):a=b:=Ku h (K3.mp h1)
theorem CC(h:a<b):((a:Nat):Int)<((b:Nat):Int):=Lv.mpr h
theorem Hs(h:a<=1000000)(h1:b<=1000000):(a+b)<=16777216:=aK [a,b] (aq af ag) (aw 16777216) af (aw 1000000) ag (aw 1000000) rfl h h1
theorem Ht{a b:Nat}:a<=(a+b):=Mm _ _
theorem CD(h:(b-a)=0)(h1:a<=b):a=b:=Ku (aN [(b-a),a,b] ag ak ag ak rfl h1) (aK [(b-a),a,b] ak ag af (aw 0) ak (aq af ag) rfl (Kc h) (ig _ _))
theorem CH{a b c:Nat}(h:(b-a)=(c+1))(h1:a<=b):a<b:=aK [(b-a),c,a,b] (ai ak) au (ai ag) af (aq af ak) au rfl (Kc h.symm) (kh (aN [(b-a),c,a,b] ak au ak au rfl h1))
theorem CI{a b c:Nat}(h:(a-b)=(c+1))(h1:b<a)(h2:b<=a):(a-(b+1))=c:=Ku (bH [(a-b),c,b,a,(a-(b+1))] aT ag af (ai ag) au (aq af ak) (aq aT (ai ak)) au rfl (Kc h) (ig _ _) (kh (aN [(a-b),c,b,a,(a-(b+1))] (ai ak) au (ai ak) au rfl h1))) (bH [(a-b),c,b,a,(a-(b+1))] ag aT (ai ag) af (aq af ak) au au (aq aT (ai ak)) rfl (Kc h.symm) (kh (aN [(a-b),c,b,a,(a-(b+1))] ak au (ai ak) au rfl h1)) (ig _ _))
theorem CJ(h:a<=c)(h1:Nat.ble (c+1) b=true):a<b:=K1 h (Kg h1)
theorem CK(h:(a+1)<=b)(h1:b<=15):a<=14:=aK [a,b] af (aw 14) (ai af) ag ag (aw 15) rfl h h1
theorem CL{a b c:Nat}(h:(a+c)<b):a<b:=K1 (Mm _ _) h
theorem CM{a b c:Nat}(h:a<b)(h1:a=c)(h2:c=b):False:=Km 0 (K3.mp λn=>Km 0 (bH [a,b,c] (aw 1) (aw 0) (ai af) ag ak af ag ak rfl h (Kc h1.symm) (Kc h2.symm)))
theorem CN(h:(c+d)=a)(h1:a<=e)(h2:Nat.ble (e+1) b=true):a<=b:=Ks (h▸h1) (K5 (Kg h2))
theorem CO(h:(a+(30*2))<=3000):(a+20)<9900:=aN [a] (ai (aq af (aw 20))) (aw 9900) (aq af (aF 30 (aw 2))) (aw 3000) rfl h
theorem g7{a b c:Nat}(h:a=(min b c)):(a=b)\/(a=c):=(Nat.le_total b c).elim (λe=>.inl (h.trans (Mb e))) λe=>.inr (h.trans (M0 e))
theorem CP{a b c:Nat}(h:a=c)(h1:c<b):a<b:=h▸h1
theorem CQ{a b:Nat}(h:a<b):a<=b:=K5 h
theorem CT(h:(a+(30*0))<=3000):(a+20)<9900:=aN [a] (ai (aq af (aw 20))) (aw 9900) (aq af (aF 30 (aw 0))) (aw 3000) rfl h
theorem CU(h:a=c)(h1:c<=d)(h2:d<e)(h3:e=f)(h4:f<=g)(h5:Nat.ble (g+1) b=true):a<=b:=Oe [a,c,d,e,f,g,b] af dI af ag ag ak (ai ak) au au aT aT cn (ai cn) dI rfl (Kc h) h1 h2 (Kc h3) h4 (Kg h5)
theorem CV{a b:Nat}:(min a b)<=b:=L8 _ _
theorem Hu:(((a:Nat):Int)+(1:Int))=(((a+1):Nat):Int):=rfl
theorem Hv:(0:Int)<=((a:Nat):Int):=Mq.mpr (dF [a] (aw 0) af rfl)
theorem Hw{a b:Nat}(h:a=(b+1)):(a-1)=b:=Ku (aK [a,b,(a-1)] ak ag af (ai ag) (aq ak (aw 1)) af rfl (Kc h) (kh (aN [a,b,(a-1)] (aw 1) af (ai ag) af rfl (Kc h.symm)))) (aK [a,b,(a-1)] ag ak (ai ag) af af (aq ak (aw 1)) rfl (Kc h.symm) (ig _ _))
theorem Hx{a b c:Nat}(h:a<=c)(h1:b<(c-a)):(a+b)<c:=aK [a,c,b,(c-a)] (ai (aq af ak)) ag (ai ak) au (aq au af) ag rfl h1 (kh (aN [a,c,b,(c-a)] af ag af ag rfl h))
theorem Hy{a b c:Nat}(h:a<c)(h1:c<=b):a<b:=Ks h h1
theorem Hz:(a+1)<=(a+20):=dF [a] (ai af) (aq af (aw 20)) rfl
theorem Ov{a:Nat}:a<=a:=dF [a] af af rfl
theorem HA(h:(5*a)<(3*b)):a<=b:=K3.mp λn=>Km 0 (aK [a,b] (aw 1) (aw 0) (ai (aF 5 af)) (aF 3 ag) (aF 3 (ai ag)) (aF 3 af) rfl h (Kk 3 n))
theorem HB(h:a<=(10*(b+13))):a<(10*(b+15)):=aN [a,b] (ai af) (aF 10 (aq ag (aw 15))) af (aF 10 (aq ag (aw 13))) rfl h
theorem HD(h:a<=c)(h1:c<=(b+1))(h2:¬(a=c)):a<=b:=aK [a,c,b] af ak ag (ai ak) (ai af) ag rfl h1 (Lb (aN [a,c,b] af ag af ag rfl h) h2)
theorem HE{a b c:Nat}(h:a<c)(h1:b=c):a<=b:=aK [a,c,b] af ak (ai af) ag ag ak rfl h (Kc h1.symm)
theorem HF:0<=a:=Kq _ _
theorem HG{a b c:Nat}(h:a<=c)(h1:c<b)(h2:¬(a=c)):a<b:=aK [a,c,b] (ai af) ak (ai ag) ak (ai af) ag rfl h1 (Lb (aN [a,c,b] af ag af ag rfl h) h2)
theorem HJ(h:a=c)(h1:c<d)(h2:Nat.ble (d+1) b=true):a<=b:=bH [a,c,d,b] af au af ag (ai ag) ak (ai ak) au rfl (Kc h) h1 (Kg h2)
theorem HK{a b c d:Nat}(h:a<c)(h1:b=d)(h2:c=b):a<b:=aK [a,c,b,d] (ai af) ak (ai af) ag ag ak rfl h (Kc h2)
theorem HN{a b c:Nat}(h:(min b c)=a):(a=b)\/(a=c):=g7 h.symm
theorem HO{a b c:Nat}(h:(max b c)=a):(a=b)\/(a=c):=g6 h.symm
theorem HP{a b c d e:Nat}(h:(max c d)=a)(h1:a<e)(h2:b=e):a<b:=h2▸h▸h1
theorem HQ{a b c d e:Nat}(h:(min c d)=a)(h1:a<e)(h2:b=e):a<b:=h2▸h▸h1
theorem HS{a b c d:Nat}(h:a<=c)(h1:b=d)(h2:c<d):a<b:=bH [a,c,b,d] (ai af) ak af ag au ak (ai ag) au rfl h (Kc h1.symm) h2
theorem Ox{a b:Nat}(h:a<b):a<b:=h
theorem XE{a b c d:Nat}(h:a=(min c d))(h1:b=(max c d))(h2:c≠d):a<b:=h▸h1▸Cu h2
theorem HU{a b c d:Nat}(h:a<c)(h1:a=(min d b))(h2:d=c):a=b:=(g7 h1).elim (λe=>(K6 h (e.trans h2)).elim) id
theorem HV{a b c:Nat}(h:b=(max c a))(h1:¬(c=b)):a=b:=(g6 h).elim (λe=>(h1 e.symm).elim) Eq.symm
theorem HW{a b:Nat}(h:a<b):a≠b:=K6 h
theorem HY(h:((a+(b+1))+(c*d))<=(e*f)):((a+b)+(c*d))<=(e*f):=aN [a,b,(c*d),(e*f)] (aq (aq af ag) ak) au (aq (aq af (ai ag)) ak) au rfl h
theorem Oy(h:a<b):(a+1)<=b:=h
theorem HZ{a b c:Nat}(h:a=c)(h1:c<=b):a<=b:=h▸h1
theorem H0{a b c d:Nat}(h:a<=c)(h1:c=d)(h2:d<=b):a<=b:=Ks h (h1▸h2)
theorem H6(h:a<=c)(h1:c=d)(h2:d<=e)(h3:Nat.ble (e+1) b=true):a<=b:=eJ [a,c,d,e,b] af aT af ag ag ak ak au (ai au) aT rfl h (Kc h1) h2 (Kg h3)
theorem H7(h:(a+c)<=d)(h1:d<e)(h2:Nat.ble (e+1) b=true):a<=b:=bH [a,c,d,e,b] af aT (aq af ag) ak (ai ak) au (ai au) aT rfl h h1 (Kg h2)
theorem H8{a b c d e f:Nat}(h:a=(max c d))(h1:c<=e)(h2:d<=f)(h3:e<b)(h4:f<b):a<b:=aK [a,(max c d),c,e,d,f,b] (ai af) dI af ag (ai ag) dI rfl (Kc h) (Vr.mpr ⟨(aK [a,(max c d),c,e,d,f,b] (ai ak) dI ak au (ai au) dI rfl h1 h3),(aK [a,(max c d),c,e,d,f,b] (ai aT) dI aT cn (ai cn) dI rfl h2 h4)⟩)
theorem Ia(h:a≠b):¬(((a:Nat):Int)=((b:Nat):Int)):=λx=>h (Int.ofNat.inj x)
theorem Ic(h:(a+d)<=c)(h1:d=(b+1)):((a+1)+b)<=c:=aK [a,d,c,b] (aq (ai af) au) ak (aq af ag) ak (ai au) ag rfl h (Kc h1.symm)
theorem Ie(h:a=((c:Nat):Int))(h1:b=((c:Nat):Int)):a=b:=h.trans h1.symm
theorem Ig{a b c d:Nat}(h:(a+b)<=d)(h1:d<=c):(a+b)<=c:=Ks h h1
theorem Ih(h:(a+(30*3))<=3000):(a+20)<9900:=aN [a] (ai (aq af (aw 20))) (aw 9900) (aq af (aF 30 (aw 3))) (aw 3000) rfl h
theorem Ii(h:(c<=d)/\(e<=d))(h1:a=c)(h2:Nat.ble (d+1) b=true):a<=b:=bH [c,d,e,a,b] au aT af ag au af (ai ag) aT rfl h.1 (Kc h1) (Kg h2)
theorem Ij(h:a<=c)(h1:c<d)(h2:Nat.ble (d+1) b=true):a<=b:=bH [a,c,d,b] af au af ag (ai ag) ak (ai ak) au rfl h h1 (Kg h2)
theorem Ik(h:a<c)(h1:b=c):a<(b+1):=aK [a,c,b] (ai af) (ai ak) (ai af) ag ag ak rfl h (Kc h1.symm)
theorem Oz{a b:Nat}(h:a<=b):a<=b:=h
theorem OA:a=a:=rfl
theorem Il{a b:Nat}:(min a b)<=(max a b):=aK [(min a b),a,b,(max a b)] af au af ag ag au rfl (Lg _ _) (Mr _ _)
theorem Im{a b:Int}(h:a<b):a≠b:=Int.ne_of_lt h
theorem Io{a b c d:Nat}(h:a<c)(h1:b=c)(h2:d=a):a<b:=h1▸h2▸h
theorem Ip(h:0<a):(0:Int)<((a:Nat):Int):=Lv.mpr h
theorem Iq(h:(a+(30*6))<=3000):(a+20)<9900:=aN [a] (ai (aq af (aw 20))) (aw 9900) (aq af (aF 30 (aw 6))) (aw 3000) rfl h
theorem Ir{a b c d e:Nat}(h:a<c)(h1:b=d)(h2:c<e)(h3:e=d):a<b:=eJ [a,c,b,d,e] (ai af) ak (ai af) ag au ak (ai ag) aT aT au rfl h (Kc h1.symm) h2 (Kc h3)
theorem Iu{a b c d:Nat}(h:a<c)(h1:b=d)(h2:c=d):a<b:=h1▸h2▸h
theorem Iv(h:a<(b+1))(h1:b<c)(h2:c<=d)(h3:¬(a=b)):a<b:=aN [a,b,c,d] (ai af) ag (ai af) ag rfl (Lb (aN [a,b,c,d] af ag (ai af) (ai ag) rfl h) h3)
theorem Iw(h:a=b):a=b:=h
theorem Iy(h:a<c)(h1:Nat.ble (c+1) b=true):a<b:=Ks h (K5 (Kg h1))
theorem Iz{a b:Nat}(h:a<=b):(min a b)=a:=Ku (aN [a,b,(min a b)] ak af ak af rfl (Lg _ _)) (aN [a,b,(min a b)] af ak af ak rfl (Kc (Mb (aN [a,b,(min a b)] af ag af ag rfl h)).symm))
theorem IA{a b c:Nat}(h:a<(min c b)):a<b:=aK [a,(min c b),c,b] (ai af) au (ai af) ag ag au rfl h (L8 _ _)
theorem OB(h:a<c)(h1:a<=b)(h2:c<=b):(a+1)<=b:=aK [a,c,b] (ai af) ak (ai af) ag ag ak rfl h h2
theorem OC(h:b<a):(0:Int)<(((a:Nat):Int)-((b:Nat):Int)):=Int.sub_pos_of_lt (Lv.mpr h)
theorem OD:((((a:Nat):Int)-((b:Nat):Int))-(1:Int))=(((a:Nat):Int)-(((b+1):Nat):Int)):=Int.sub_sub ..
theorem OG:(((a:Nat):Int)-((a:Nat):Int))<=(0:Int):=Vo (Int.sub_self _)
theorem OH:(((a+(b+1)):Nat):Int)=((((a+1)+b):Nat):Int):=congrArg (λn:Nat=>(n:Int)) (Ku (dF [a,b] (aq af (ai ag)) (aq (ai af) ag) rfl) (dF [a,b] (aq (ai af) ag) (aq af (ai ag)) rfl))
theorem OI:((0:Int)+(((a:Nat):Int)*(1:Int)))=(((0+a):Nat):Int):=(Int.zero_add _).trans ((Int.mul_one _).trans (congrArg _ (Nat.zero_add a).symm))
theorem OJ(h:0<b)(h1:b=a):0<a:=h1▸h
theorem OL(h:a<=(b+1)):(a+1)<=((b+1)+1):=L9 h
theorem OM(h:a=c)(h1:c<=(d+1))(h2:d<=e)(h3:Nat.ble (e+1) b=true):a<=b:=eJ [a,c,d,e,b] af aT af ag ag (ai ak) ak au (ai au) aT rfl (Kc h) h1 h2 (Kg h3)
theorem OO(h:a<=c)(h1:Nat.ble (c+1) b=true):a<=(b+1):=aK [a,c,b] af (ai ak) af ag (ai ag) ak rfl h (Kg h1)
theorem OQ(h:(a+(30*b))<=3000):(a+100)<9900:=aN [a,b] (ai (aq af (aw 100))) (aw 9900) (aq af (aF 30 ag)) (aw 3000) rfl h
theorem OS(h:(a+(3*c))<=900)(h1:b<=c):(a+(3*b))<=900:=aK [a,c,b] (aq af (aF 3 ak)) (aw 900) (aq af (aF 3 ag)) (aw 900) (aF 3 ak) (aF 3 ag) rfl h (Kk 3 h1)
theorem OT(h:(a+(30*c))<=3000)(h1:b<=c):(a+(30*b))<=3000:=aK [a,c,b] (aq af (aF 30 ak)) (aw 3000) (aq af (aF 30 ag)) (aw 3000) (aF 30 ak) (aF 30 ag) rfl h (Kk 30 h1)
theorem OU(h:(a+(3*(b+1)))<=900):((a+1)+(3*b))<=900:=aN [a,b] (aq (ai af) (aF 3 ag)) (aw 900) (aq af (aF 3 (ai ag))) (aw 900) rfl h
theorem OV(h:(a+(c*(d+1)))<=e)(h1:Nat.ble (b+1) c=true):((a+b)+(c*d))<=e:=aK [a,(c*d),c,e,b] (aq (aq af aT) ag) au (aq af (aq ag ak)) au (ai aT) ak rfl h (Kg h1)
theorem OW(h:(a+(b*(c+1)))<=d):(a+(b*c))<=d:=aN [a,(b*c),b,d] (aq af ag) au (aq af (aq ag ak)) au rfl h
theorem OX(h:(a+(30*(b+1)))<=3000):((a+1)+(30*b))<=3000:=aN [a,b] (aq (ai af) (aF 30 ag)) (aw 3000) (aq af (aF 30 (ai ag))) (aw 3000) rfl h
theorem OY(h:a<=1000000)(h1:b<=1000000):(a+b)<=(16777216+1):=aK [a,b] (aq af ag) (ai (aw 16777216)) af (aw 1000000) ag (aw 1000000) rfl h h1
theorem OZ(h:16777216<(a+b))(h1:a<=1000000)(h2:b<=1000000):False:=Km 0 (K3.mp λn=>Km 0 (bH [a,b] (aw 1) (aw 0) (ai (aw 16777216)) (aq af ag) af (aw 1000000) ag (aw 1000000) rfl h h1 h2))
theorem O0(h:a<(c+1)):(a-b)<=c:=aK [a,c,(a-b),b] ak ag (ai af) (ai ag) ak af rfl h (Nat.sub_le _ _)
theorem O1{a b:Nat}(h:a<=b):(a+(b-a))=b:=Ku (aN [a,b,(b-a)] (aq af ak) ag (aq ak af) ag rfl (kh (aN [a,b,(b-a)] af ag af ag rfl h))) (aN [a,b,(b-a)] ag (aq af ak) ag (aq ak af) rfl (ig _ _))
theorem O2(h:¬(c<=b)):(((a+1)+b)-c)<=a:=Nat.sub_le_of_le_add (Og h)
theorem O3(h:a<(b+1)):(a+(((b+1)+c)-a))=((b+1)+c):=Ku (aN [a,b,(((b+1)+c)-a),c] (aq af ak) (aq (ai ag) au) (aq ak af) (aq (ai ag) au) rfl (kh (aN [a,b,(((b+1)+c)-a),c] af (aq (ai ag) au) (ai af) (ai ag) rfl h))) (aN [a,b,(((b+1)+c)-a),c] (aq (ai ag) au) (aq af ak) (aq (ai ag) au) (aq ak af) rfl (ig _ _))
theorem O4{a b c:Nat}(h:b<=c):(a+b)<=(c+a):=aN [b,c,a] (aq ak af) (aq ag ak) af ag rfl h
theorem O5(h:a=0):¬(a>0):=K3.mpr (aN [a] af (aw 0) af (aw 0) rfl (Kc h))
theorem O6(h:a<=e)(h1:b<=(c*d))(h2:Nat.ble (e+1) c=true):((a+1)+b)<=(c*(d+1)):=bH [a,e,b,(c*d),c] (aq (ai af) ak) (aq au aT) af ag ak au (ai ag) aT rfl h h1 (Kg h2)
theorem O7(h:0<a)(h1:a<(b+1)):(a-1)<b:=aK [a,b,(a-1)] (ai ak) ag (ai af) (ai ag) (aq ak (aw 1)) af rfl h1 (kh (aN [a,b,(a-1)] (aw 1) af (ai (aw 0)) af rfl h))
theorem O8(h:(b-a)<=0)(h1:a<=b):a=b:=Ku (aN [(b-a),a,b] ag ak ag ak rfl h1) (aK [(b-a),a,b] ak ag af (aw 0) ak (aq af ag) rfl h (ig _ _))
theorem O9(h:a<b)(h1:a<=b)(h2:b<=c):((a+b)/2)<c:=K3.mp λn=>Km 0 (eJ [a,b,c,((a+b)/2)] (aw 1) (aw 0) (ai af) ag (aF 2 ag) (aF 2 ak) (aF 2 au) (aq af ag) (aF 2 (ai ak)) (aF 2 (ai au)) rfl h (Kk 2 h2) (Cr _) (Kk 2 n))
theorem Pa(h:(a-b)<=(c+1)):(a-(((b+a)/2)+1))<=c:=Nat.sub_le_of_le_add (Oh (Nat.le_add_of_sub_le h) (Ct _))
theorem Pb(h:a<b)(h1:a<=b):(((a+b)/2)+1)<=b:=K3.mp λn=>Km 0 (bH [a,b,((a+b)/2)] (aw 1) (aw 0) (ai af) ag (aF 2 ak) (aq af ag) (aF 2 (ai ag)) (aF 2 (ai ak)) rfl h (Cr _) (Kk 2 n))
theorem Pg(h:a<(((b+c)/d)+1)):a<=((b+c)/d):=Ls h
theorem Ph(h:(b-a)<=(c+1))(h1:a<b):(((a+b)/2)-a)<=c:=K3.mp λn=>Km 0 (Hp [(b-a),c,a,b,((a+b)/2),(((a+b)/2)-a)] (aw 1) (aw 0) af (ai ag) au (aq af ak) (aF 2 aT) (aq ak au) (aF 2 (aq cn ak)) (aF 2 aT) (aF 2 (ai ag)) (aF 2 cn) rfl h (ig _ _) (Cr _) (Kk 2 (kh (K3.mp λn=>Km 0 (bH [(b-a),c,a,b,((a+b)/2),(((a+b)/2)-a)] (aw 1) (aw 0) (ai ak) au (aq ak au) (aq (aF 2 aT) (aw 1)) (aF 2 (ai aT)) (aF 2 ak) rfl h1 (Ct _) (Kk 2 n))))) (Kk 2 n))
theorem Pj{a b c d:Nat}(h:((a+b)/c)<d):((a+b)/c)<=d:=K5 h
theorem Pk(h:a<b):a<=((a+b)/2):=K3.mp λn=>Km 0 (bH [a,b,((a+b)/2)] (aw 1) (aw 0) (ai af) ag (aq af ag) (aq (aF 2 ak) (aw 1)) (aF 2 (ai ak)) (aF 2 af) rfl h (Ct _) (Kk 2 n))
theorem Pl:(a-0)<=a:=aN [(a-0),a] af ag af ag rfl (Nat.sub_le _ _)
theorem Pm{a b c:Nat}(h:a<c)(h1:a<=b)(h2:c<b):a<b:=aK [a,c,b] (ai af) ak (ai af) ag (ai ag) ak rfl h h2
theorem Pn{a b c d e:Nat}(h:a<b)(h1:b<=a)(h2:c<d)(h3:e<d):False:=Km 0 (K3.mp λn=>Km 0 (aK [a,b,c,d,e] (aw 1) (aw 0) (ai af) ag ag af rfl h h1))
theorem Pp(h:(a+1)<c)(h1:a<b)(h2:c<=b):(a+1)<b:=aK [a,c,b] (ai (ai af)) ak (ai (ai af)) ag ag ak rfl h h2
theorem Pu(h:(a+1)<b)(h1:a<b)(h2:c<(d+1))(h3:d<c):False:=Km 0 (K3.mp λn=>Km 0 (aK [a,b,c,d] (aw 1) (aw 0) (ai ak) (ai au) (ai au) ak rfl h2 h3))
theorem Px(h:a<(b+1))(h1:b<c):a<=b:=aN [a,b,c] af ag (ai af) (ai ag) rfl h
theorem Py{a b c:Nat}(h:(a+1)<=a)(h1:b<c):False:=Km 0 (K3.mp λn=>Km 0 (aN [a,b,c] (aw 1) (aw 0) (ai af) af rfl h))
theorem Pz{a b c:Nat}(h:a<(min c b))(h1:c<=b):a<b:=aK [a,(min c b),c,b] (ai af) au (ai af) ag ag au rfl h (L8 _ _)
theorem PA{a b c:Nat}(h:a<(min b c))(h1:b<=c):a<b:=aK [a,(min b c),b,c] (ai af) ak (ai af) ag ag ak rfl h (Lg _ _)
theorem PB(h:(5*a)<(3*b)):a<(b+1):=K3.mp λn=>Km 0 (aK [a,b] (aw 1) (aw 0) (ai (aF 5 af)) (aF 3 ag) (aF 3 (ai (ai ag))) (aF 3 (ai af)) rfl h (Kk 3 n))
theorem PC(h:a<=(10*c))(h1:c<=(b+13)):a<=(10*(b+13)):=aK [a,c,b] af (aF 10 (aq ak (aw 13))) af (aF 10 ag) (aF 10 ag) (aF 10 (aq ak (aw 13))) rfl h (Kk 10 h1)
theorem PD(h:a<b)(h1:a<=b)(h2:b<=d)(h3:Nat.ble (d+1) c=true):(min a b)<=c:=eJ [a,b,d,c,(min a b)] aT au (ai af) ag ag ak (ai ak) au aT af rfl h h2 (Kg h3) (Lg _ _)
theorem PE(h:a<b)(h1:b<=d)(h2:Nat.ble (d+1) c=true):(min (a+1) b)<=(c+1):=bH [a,b,d,c,(min (a+1) b)] aT (ai au) ag ak (ai ak) au aT ag rfl h1 (Kg h2) (L8 _ _)
theorem PF(h:0<a):¬(a=0):=Ly h
theorem PG(h:c<d)(h1:c=a)(h2:Nat.ble (d+1) b=true):a<=(b+1):=bH [c,d,a,b] ak (ai au) (ai af) ag ak af (ai ag) au rfl h (Kc h1.symm) (Kg h2)
theorem PH(h:a=b)(h1:c=b)(h2:¬(c<2)):0<a:=bH [a,b,c] (ai (aw 0)) af ag af ak ag (aw 2) ak rfl (Kc h.symm) (Kc h1) (K3.mp h2)
theorem PI(h:b=a)(h1:¬(b<2)):0<a:=aK [b,a] (ai (aw 0)) ag af ag (aw 2) af rfl (Kc h) (K3.mp h1)
theorem PJ(h:a<c)(h1:Nat.ble (c+1) b=true):a<=(b+1):=aK [a,c,b] af (ai ak) (ai af) ag (ai ag) ak rfl h (Kg h1)
theorem PK:((a+1)+1)<=(a+20):=dF [a] (ai (ai af)) (aq af (aw 20)) rfl
theorem PL(h:0<b)(h1:a<=(b-1)):(a+1)<=b:=aK [b,a,(b-1)] (ai ag) af ag ak (aq ak (aw 1)) af rfl h1 (kh (aN [b,a,(b-1)] (aw 1) af (ai (aw 0)) af rfl h))
theorem PN(h:(a*(b+e))<(c*(d-1))):(a*b)<(c*(d-1)):=K1 (Kk a (Mm b e)) h
theorem PO{a b c d e:Nat}(h:¬(((b+c)*a)≥(e*d))):(a*(b+c))<(d*e):=by rw[Nat.mul_comm a,Nat.mul_comm d];exact Vq.mp h
theorem PQ(h:(a*(e+b))<(c*d))(h1:e=0):(a*b)<(c*d):=K1 (Kk a (Kq b e)) h
theorem PR(h:b<=a):0<((a+1)-b):=aK [b,a,((a+1)-b)] (ai (aw 0)) ak af ag (ai ag) (aq ak af) rfl h (ig _ _)
theorem PS(h:a<c)(h1:c=(b+1)):a<=b:=aK [a,c,b] af ak (ai af) ag ag (ai ak) rfl h (Kc h1)
theorem PT(h:a=(b+1))(h1:c=a)(h2:c=d)(h3:d<=b):False:=Km 0 (K3.mp λn=>Km 0 (eJ [a,b,c,d] (aw 1) (aw 0) (ai ag) af af ak ak au au ag rfl (Kc h.symm) (Kc h1.symm) (Kc h2) h3))
theorem PU(h:(a+(c+1))<=b):a<=b:=Ks (Mm _ _) h
theorem PV(h:a<=(b+d))(h1:Nat.ble (d+1) c=true):a<(b+c):=aK [a,b,d,c] (ai af) (aq ag au) af (aq ag ak) (ai ak) au rfl h (Kg h1)
theorem PW(h:(a+(b+1))<=c):((a+1)+b)<=c:=aN [a,b,c] (aq (ai af) ag) ak (aq af (ai ag)) ak rfl h
theorem PX:((a+1)+b)=(a+(b+1)):=Ku (dF [a,b] (aq (ai af) ag) (aq af (ai ag)) rfl) (dF [a,b] (aq af (ai ag)) (aq (ai af) ag) rfl)
theorem PY:(a+(b+1))=((a+1)+b):=Ku (dF [a,b] (aq af (ai ag)) (aq (ai af) ag) rfl) (dF [a,b] (aq (ai af) ag) (aq af (ai ag)) rfl)
theorem PZ(h:a<=b):(0+a)<=b:=aN [a,b] (aq (aw 0) af) ag af ag rfl h
theorem P1(h:a<=15)(h1:b<=15):(a+b)<=30:=Ld h h1
theorem P5{a b:Nat}(h:a=b):¬(a>b):=K3.mpr (aN [a,b] af ag af ag rfl (Kc h))
theorem P9{a b c:Nat}(h:a<b)(h1:b=c):a<(min b c):=aK [a,b,c,(min b c)] (ai af) au (ai af) ag ag au rfl h (Kc (Mb (aN [a,b,c,(min b c)] ag ak ag ak rfl (Kc h1))).symm)
theorem Ra(h:(c+40)<b)(h1:a<=(d+20))(h2:d<=(c+20)):a<b:=bH [c,b,a,d] (ai ak) ag (ai (aq af (aw 40))) ag ak (aq au (aw 20)) au (aq af (aw 20)) rfl h h1 h2
theorem Rb{a b c d:Nat}(h:a<=c)(h1:c<d)(h2:d<=b):a<=b:=bH [a,c,d,b] af au af ag (ai ag) ak ak au rfl h h1 h2
theorem Rc(h:a<=(c+1))(h1:c<=b):a<=(b+1):=aK [a,c,b] af (ai ak) af (ai ag) ag ak rfl h h1
theorem Rd{a b c d:Nat}(h:(b*a)<(d*c)):(a*b)<(c*d):=by rw[Nat.mul_comm a,Nat.mul_comm c];exact h
theorem Rf(h:(5*a)<(3*b))(h1:7<=b):(a+1)<=b:=K3.mp λn=>Km 0 (bH [a,b] (aw 1) (aw 0) (ai (aF 5 af)) (aF 3 ag) (aF 2 (aw 7)) (aF 2 ag) (aF 5 (ai ag)) (aF 5 (ai af)) rfl h (Kk 2 h1) (Kk 5 n))
theorem Rh(h:a=(c+1))(h1:c<=d)(h2:Nat.ble (d+1) b=true):a<=b:=bH [a,c,d,b] af au af (ai ag) ag ak (ai ak) au rfl (Kc h) h1 (Kg h2)
theorem Ri(h:a<c)(h1:c<(b+1)):a<b:=aK [a,c,b] (ai af) ak (ai af) ag (ai ag) (ai ak) rfl h h1
theorem Rj{a b c d:Nat}(h:a<d)(h1:d<(b*c)):a<(b*c):=Mf h h1
theorem Rk(h:a<=(10*(b+13)))(h1:b<=63):a<100000:=aK [a,b] (ai af) (aw 100000) af (aF 10 (aq ag (aw 13))) (aF 10 ag) (aF 10 (aw 63)) rfl h (Kk 10 h1)
theorem Rl(h:b=(c+1))(h1:b<=a):0<a:=aK [b,c,a] (ai (aw 0)) ak (ai ag) af af ak rfl (Kc h.symm) h1
theorem Rm{a b c:Nat}(h:a<b)(h1:c=a)(h2:c=b):False:=Km 0 (K3.mp λn=>Km 0 (bH [a,b,c] (aw 1) (aw 0) (ai af) ag ak af ag ak rfl h (Kc h1) (Kc h2.symm)))
theorem Rn:((a+1)+b)=((a+b)+1):=Ku (dF [a,b] (aq (ai af) ag) (ai (aq af ag)) rfl) (dF [a,b] (ai (aq af ag)) (aq (ai af) ag) rfl)
theorem Ro(h:¬(b<a))(h1:¬(b=a)):(a+1)<=b:=aN [a,b] (ai af) ag (ai af) ag rfl (Lb (aN [a,b] af ag af ag rfl (K3.mp h)) (Ne.symm h1))
theorem Rp{a b:Nat}(h:a<=b)(h1:¬(a=b)):a<b:=Lb h h1
theorem Rq(h:a<12):a<=11:=Ls h
theorem Rr{a b c:Nat}(h:a<=c)(h1:c<b):¬(a=b):=K6 (aK [a,c,b] (ai af) ak af ag (ai ag) ak rfl h h1)
theorem Rt(h:b<(a+1))(h1:¬(b=a)):¬(a=b):=Ly (aN [b,a] (ai af) ag (ai af) ag rfl (Lb (aN [b,a] af ag (ai af) (ai ag) rfl h) h1))
theorem Ru(h:a<=b)(h1:¬(a=b)):((a:Nat):Int)≠((b:Nat):Int):=λe=>(K6 (aN [a,b] (ai af) ag (ai af) ag rfl (Lb (aN [a,b] af ag af ag rfl h) h1))) (Int.ofNat.inj e)
theorem Rv(h:a=c)(h1:c=d)(h2:d<e)(h3:Nat.ble (e+1) b=true):a<=b:=eJ [a,c,d,e,b] af aT af ag ag ak (ai ak) au (ai au) aT rfl (Kc h) (Kc h1) h2 (Kg h3)
theorem Rw(h:a=c)(h1:c<d)(h2:Nat.ble (d+1) b=true):(a+1)<b:=bH [a,c,d,b] (ai (ai af)) au af ag (ai ag) ak (ai ak) au rfl (Kc h) h1 (Kg h2)
theorem Rx(h:(a+b)=c):(a+(b+1))=(c+1):=Ku (aN [a,b,c] (aq af (ai ag)) (ai ak) (aq af ag) ak rfl (Kc h)) (aN [a,b,c] (ai ak) (aq af (ai ag)) ak (aq af ag) rfl (Kc h.symm))
theorem Ry(h:a<(b+1))(h1:b=c)(h2:c=d)(h3:¬(a<b)):a=b:=Ku (aN [a,b,c,d] af ag (ai af) (ai ag) rfl h) (aN [a,b,c,d] ag af ag af rfl (K3.mp h3))
theorem Rz(h:(((b:Nat):Int)=a)\/(((b:Nat):Int)=d))(h1:(((c:Nat):Int)=a)\/(((c:Nat):Int)=d))(h2:(a=((b:Nat):Int))\/(a=((c:Nat):Int)))(h3:a<=d):a=(((min b c):Nat):Int):=have hb:a<=b:=h.elim (λe=>Vo e.symm) (λe=>e▸h3);have hc:a<=c:=h1.elim (λe=>Vo e.symm) (λe=>e▸h3);h2.elim (λe=>e.trans (congrArg _ (Mb (Mq.mp (e▸hc))).symm)) λe=>e.trans (congrArg _ (M0 (Mq.mp (e▸hb))).symm)
theorem RA(h:(((b:Nat):Int)=d)\/(((b:Nat):Int)=a))(h1:(((c:Nat):Int)=d)\/(((c:Nat):Int)=a))(h2:(a=((b:Nat):Int))\/(a=((c:Nat):Int)))(h3:d<=a):a=(((max b c):Nat):Int):=have hb:b<=a:=h.elim (λe=>e▸h3) Vo;have hc:c<=a:=h1.elim (λe=>e▸h3) Vo;h2.elim (λe=>e.trans (congrArg _ (Ms (Mq.mp (e▸hc))).symm)) λe=>e.trans (congrArg _ (M1 (Mq.mp (e▸hb))).symm)
theorem RB(h:¬(a=b)):(((min a b):Nat):Int)≠(((max a b):Nat):Int):=λe=>K6 (Cu h) (Int.ofNat.inj e)
theorem RC{a b c d e:Nat}(h:(min c d)=a)(h1:c<=e)(h2:e<b):a<b:=eJ [(min c d),a,c,e,b,d] (ai ag) aT ag af ak au (ai au) aT af ak rfl (Kc h.symm) h1 h2 (Lg _ _)
theorem RD{a b c d e f:Nat}(h:(max c d)=a)(h1:c<=e)(h2:d<=f)(h3:e<b)(h4:f<b):a<b:=aK [(max c d),a,c,e,d,f,b] (ai ag) dI ag af (ai af) dI rfl (Kc h.symm) (Vr.mpr ⟨(aK [(max c d),a,c,e,d,f,b] (ai ak) dI ak au (ai au) dI rfl h1 h3),(aK [(max c d),a,c,e,d,f,b] (ai aT) dI aT cn (ai cn) dI rfl h2 h4)⟩)
theorem RF(h:(a+c)=d)(h1:d<=e)(h2:Nat.ble (e+1) b=true):a<=b:=bH [a,c,d,e,b] af aT (aq af ag) ak ak au (ai au) aT rfl (Kc h) h1 (Kg h2)
theorem RG{a b c d:Nat}(h:a<b)(h1:b=c)(h2:c=d):a<b:=aN [a,b,c,d] (ai af) ag (ai af) ag rfl h
theorem RH(h:(a+d)=c)(h1:d=(b+1)):((a+1)+b)=c:=Ku (aK [a,d,c,b] (aq (ai af) au) ak (aq af ag) ak (ai au) ag rfl (Kc h) (Kc h1.symm)) (aK [a,d,c,b] ak (aq (ai af) au) ak (aq af ag) ag (ai au) rfl (Kc h.symm) (Kc h1))
theorem RJ(h:a=c)(h1:c<=d)(h2:Nat.ble (d+1) b=true):a<b:=bH [a,c,d,b] (ai af) au af ag ag ak (ai ak) au rfl (Kc h) h1 (Kg h2)
theorem RK(h:a=1):a<=1000000:=h▸Kv _
theorem RL(h:a=c)(h1:c<=d)(h2:Nat.ble (d+1) b=true):(a+1)<=b:=bH [a,c,d,b] (ai af) au af ag ag ak (ai ak) au rfl (Kc h) h1 (Kg h2)
theorem RM(h:a=b):((a:Nat):Int)=((b:Nat):Int):=congrArg (λn:Nat=>(n:Int)) (Ku (aN [a,b] af ag af ag rfl (Kc h)) (aN [a,b] ag af ag af rfl (Kc h.symm)))
theorem RN{a b c:Nat}(h:c=a)(h1:c<=b):a<=b:=h▸h1
theorem RO{a b c:Nat}(h:b<=a)(h1:c=a)(h2:c<=b):a<=b:=aK [b,a,c] ag af ag ak ak af rfl (Kc h1.symm) h2
theorem RP{a b:Nat}(h:a<=b)(h1:b<=a):a=b:=Ku h h1
theorem RQ{a b:Int}(h:a<b)(h1:b<a):a=b:=(Int.lt_irrefl _ (Int.lt_trans h h1)).elim
theorem RR{a b:Int}(h:(a<=b)/\(a≠b)):a<b:=Int.lt_iff_le_and_ne.mpr h
theorem RT(h:a<=c)(h1:b<=(c*d)):(a+b)<=(c*(d+1)):=aK [a,c,b,(c*d)] (aq af ak) (aq au ag) af ag ak au rfl h h1
theorem RU(h:a<=(2*b))(h1:b<=12):a<=24:=aK [a,b] af (aw 24) af (aF 2 ag) (aF 2 ag) (aF 2 (aw 12)) rfl h (Kk 2 h1)
theorem RV{a b c d:Nat}(h:a<=c)(h1:c<=d)(h2:d<=b):a<=b:=Ks h (Ks h1 h2)
theorem RW(h:((a+b)+(24*c))<=(25*d))(h1:d<=12):(a<=300)/\(b<=300):=⟨(aK [a,b,c,d] af (aw 300) (aq (aq af ag) (aF 24 ak)) (aF 25 au) (aF 25 au) (aF 25 (aw 12)) rfl h (Kk 25 h1)),(aK [a,b,c,d] ag (aw 300) (aq (aq af ag) (aF 24 ak)) (aF 25 au) (aF 25 au) (aF 25 (aw 12)) rfl h (Kk 25 h1))⟩
theorem RX{a b c d e f g:Nat}(h:c<d)(h1:e<d)(h2:a=(max f g))(h3:f<=c)(h4:g<=e)(h5:b=d):a<b:=aK [c,d,e,a,(max f g),f,g,b] (ai au) kg au aT (ai aT) kg rfl (Kc h2) (Vr.mpr ⟨(bH [c,d,e,a,(max f g),f,g,b] (ai cn) kg (ai af) ag cn af ag kg rfl h h3 (Kc h5.symm)),(bH [c,d,e,a,(max f g),f,g,b] (ai dI) kg (ai ak) ag dI ak ag kg rfl h1 h4 (Kc h5.symm))⟩)
theorem RY{a b c d:Nat}(h:a<c)(h1:b=d)(h2:c<b):a<b:=aK [a,c,b,d] (ai af) ak (ai af) ag (ai ag) ak rfl h h2
theorem RZ{a b c:Nat}(h:a=(min b c))(h1:b<c):a=b:=Ku (aK [a,(min b c),b,c] af ak af ag ag ak rfl (Kc h) (Lg _ _)) (aK [a,(min b c),b,c] ak af ag af ak ag rfl (Kc h.symm) (Kc (Mb (aN [a,(min b c),b,c] ak au (ai ak) au rfl h1)).symm))
theorem R0{a b c d:Nat}(h:a=(max c b))(h1:c<b)(h2:d=(min c b))(h3:d=c):a=b:=Ku (aK [a,(max c b),c,b,d,(min c b)] af au af ag ag au rfl (Kc h) (Kc (M1 (aN [a,(max c b),c,b,d,(min c b)] ak au (ai ak) au rfl h1)))) (aK [a,(max c b),c,b,d,(min c b)] au af ag af au ag rfl (Kc h.symm) (Vi _ _))
theorem R1{a b c:Nat}(h:a=(min c b))(h1:¬(c<b)):a=b:=Ku (aK [a,(min c b),b,c] af ak af ag ag ak rfl (Kc h) (L8 _ _)) (aK [a,(min c b),b,c] ak af ag af ak ag rfl (Kc h.symm) (Kc (M0 (aN [a,(min c b),b,c] ak au ak au rfl (K3.mp h1))).symm))
theorem R2{a b c d:Nat}(h:a=(max b c))(h1:b≠c)(h2:d=(min b c))(h3:d=c)(h4:¬(b<c)):a=b:=Ku (aK [a,(max b c),d,(min b c),c,b] af cn af ag ag cn rfl (Kc h) (Kc (Ms (aN [a,(max b c),d,(min b c),c,b] aT cn (ai aT) cn rfl (Lb (aN [a,(max b c),d,(min b c),c,b] aT cn aT cn rfl (K3.mp h4)) (Ne.symm h1)))))) (aK [a,(max b c),d,(min b c),c,b] cn af ag af cn ag rfl (Kc h.symm) (Mr _ _))
theorem R3{a b c d:Nat}(h:b<c)(h1:b=(min a d))(h2:d=c):a=b:=(g7 h1).elim Eq.symm λe=>(K6 h (e.trans h2)).elim
theorem R4{a b c:Nat}(h:a=c)(h1:b<c):a≠b:=Ly (aK [a,c,b] (ai ak) af ag af (ai ak) ag rfl (Kc h.symm) h1)
theorem R5:((a+b)+1)=(a+(b+1)):=rfl
theorem R6:((a+b)+1)=((a+1)+b):=Ku (dF [a,b] (ai (aq af ag)) (aq (ai af) ag) rfl) (dF [a,b] (aq (ai af) ag) (ai (aq af ag)) rfl)
theorem R7{a b c d e:Nat}(h:a<=d)(h1:b<=e)(h2:c=(d+e)):(a+b)<=c:=bH [a,d,b,e,c] (aq af ak) aT af ag ak au (aq ag au) aT rfl h h1 (Kc h2.symm)
theorem R8(h:b≠c)(h1:¬(b=a)):(a=b)↔(c=b):=⟨λe=>(h1 e.symm).elim,λe=>(h e.symm).elim⟩
theorem R9{a b c:Nat}(h:a<=c)(h1:b=c):a<=b:=h1▸h
theorem Sd(h:((a+b)+(24*f))<=(25*e))(h1:c<=24)(h2:f=(d+1)):((a+(b+c))+(24*d))<=(25*e):=bH [a,b,f,e,c,d] (aq (aq af (aq ag aT)) (aF 24 cn)) (aF 25 au) (aq (aq af ag) (aF 24 ak)) (aF 25 au) aT (aw 24) (aF 24 (ai cn)) (aF 24 ak) rfl h h1 (Kk 24 (Kc h2.symm))
theorem Se(h:((a+(b+1))+(c*d))<=(e*f)):(((a+1)+b)+(c*d))<=(e*f):=aN [a,b,(c*d),(e*f)] (aq (aq (ai af) ag) ak) au (aq (aq af (ai ag)) ak) au rfl h
theorem Sf{a b c d e f g:Nat}(h:a=(max c d))(h1:e<f)(h2:g<f)(h3:c<=e)(h4:d<=g)(h5:b=f):a<b:=aK [a,(max c d),e,f,g,c,d,b] (ai af) kg af ag (ai ag) kg rfl (Kc h) (Vr.mpr ⟨(bH [a,(max c d),e,f,g,c,d,b] (ai cn) kg (ai ak) au cn ak au kg rfl h1 h3 (Kc h5.symm)),(bH [a,(max c d),e,f,g,c,d,b] (ai dI) kg (ai aT) au dI aT au kg rfl h2 h4 (Kc h5.symm))⟩)
theorem Sg{a b c d:Nat}(h:b=(min a c))(h1:d=(max a c))(h2:¬(a=d)):a=b:=(Nat.le_total a c).elim (λe=>(Mb e).symm.trans h.symm) λe=>(h2 ((Ms e).symm.trans h1.symm)).elim
theorem Sh:a<(a+1):=dF [a] (ai af) (ai af) rfl
theorem Si(h:0<c)(h1:a<=b):(a+1)<=(b+c):=Ld h1 h
theorem Sj{a b c:Nat}(h:a<=b):a<=(b+c):=aN [a,b,c] af (aq ag ak) af ag rfl h
theorem Sl(h:a=b):a<(b+1):=aN [a,b] (ai af) (ai ag) af ag rfl (Kc h)
theorem Sn(h:((a+b)+(c*d))<=(e*f))(h1:Nat.ble (c+1) e=true):((a+(b+1))+(c*(d+1)))<=(e*(f+1)):=aK [a,b,(c*d),(e*f),c,e] (aq (aq af (ai ag)) (aq ak aT)) (aq au cn) (aq (aq af ag) ak) au (ai aT) cn rfl h (Kg h1)
theorem Sp{a b c d:Nat}(h:a<c)(h1:b=d)(h2:c<d):a<b:=bH [a,c,b,d] (ai af) ak (ai af) ag au ak (ai ag) au rfl h (Kc h1.symm) h2
theorem Sq(h:(a+(30*3))<=3000):(a+40)<9900:=aN [a] (ai (aq af (aw 40))) (aw 9900) (aq af (aF 30 (aw 3))) (aw 3000) rfl h
theorem Sr{a b c d e:Nat}(h:a=c)(h1:c<=d)(h2:d=e)(h3:e<=b):a<=b:=eJ [a,c,d,e,b] af aT af ag ag ak ak au au aT rfl (Kc h) h1 (Kc h2) h3
theorem Ss(h:(a+b)<=c):((a+1)+b)<=(c+1):=aN [a,b,c] (aq (ai af) ag) (ai ak) (aq af ag) ak rfl h
theorem Sv(h:(a+b)<=c):(a+b)<=(c+1):=Mu h
theorem Sw{a b c d e:Nat}(h:a=(min c d))(h1:c<=e)(h2:e<b):a<b:=eJ [a,(min c d),c,e,b,d] (ai af) aT af ag ak au (ai au) aT ag ak rfl (Kc h) h1 h2 (Lg _ _)
theorem Sx{a b c d:Nat}(h:a=(min c d))(h1:b=(max c d))(h2:c≠d):a≠b:=K6 (XE h h1 h2)
theorem Sy(h:(a+c)<=d)(h1:d<e)(h2:Nat.ble (e+1) b=true):(a+1)<b:=bH [a,c,d,e,b] (ai (ai af)) aT (aq af ag) ak (ai ak) au (ai au) aT rfl h h1 (Kg h2)
theorem Sz(h:a<=c)(h1:c<=d)(h2:d<=e)(h3:Nat.ble (e+1) b=true):a<=b:=eJ [a,c,d,e,b] af aT af ag ag ak ak au (ai au) aT rfl h h1 h2 (Kg h3)
theorem SA{a b c:Nat}(h:a=b)(h1:a≠c)(h2:b=c):False:=Km 0 (K3.mp λn=>Km 0 (bH [a,b,c] (aw 1) (aw 0) ag af ak ag (ai af) ak rfl (Kc h.symm) (Kc h2.symm) (Lb (aK [a,b,c] af ak af ag ag ak rfl (Kc h) (Kc h2)) h1)))
theorem SD(h:(a+1)<=b):a<=b:=K5 h
theorem SE{a b c:Nat}(h:b=(max c a)):a<=b:=aK [b,(max c a),c,a] au af ag af au ag rfl (Kc h.symm) (Vi _ _)
theorem SF{a b c d:Nat}(h:a=(min c d))(h1:b=(max c d))(h2:¬(c=d)):a≠b:=K6 (XE h h1 h2)
theorem SG{a b c d e f g:Nat}(h:b=c)(h1:d<c)(h2:e<c)(h3:a=(max f g))(h4:f<=e)(h5:g<=d):a<b:=aK [b,c,d,e,a,(max f g),f,g] (ai aT) af aT cn (ai cn) af rfl (Kc h3) (Vr.mpr ⟨(bH [b,c,d,e,a,(max f g),f,g] (ai dI) af ag af (ai au) ag dI au rfl (Kc h.symm) h2 h4),(bH [b,c,d,e,a,(max f g),f,g] (ai kg) af ag af (ai ak) ag kg ak rfl (Kc h.symm) h1 h5)⟩)
theorem SH:(0:Int)<(((a+1):Nat):Int):=Lv.mpr (dF [a] (ai (aw 0)) (ai af) rfl)
theorem SJ(h:(c+1)<=d)(h1:a=c)(h2:Nat.ble (d+1) b=true):a<=b:=bH [c,d,a,b] ak au (ai af) ag ak af (ai ag) au rfl h (Kc h1) (Kg h2)
theorem SK(h:b=d):((a*b)+c)<((a*d)+(c+1)):=h▸Ln _
theorem SM(h:(a+1)=d)(h1:c<=24):((30*a)+(b+c))<((30*d)+(b+1)):=aK [a,d,c,b] (ai (aq (aF 30 af) (aq au ak))) (aq (aF 30 ag) (ai au)) (aF 30 (ai af)) (aF 30 ag) ak (aw 24) rfl (Kk 30 (Kc h)) h1
theorem SN(h:((a:Nat):Int)=((b:Nat):Int))(h1:¬(a=b)):False:=Km 0 (K3.mp λn=>Km 0 (aK [a,b] (aw 1) (aw 0) ag af (ai af) ag rfl (Kc (Int.ofNat.inj h).symm) (Lb (aN [a,b] af ag af ag rfl (Kc (Int.ofNat.inj h))) h1)))
theorem SQ(h:a<(b+1))(h1:¬(a=b)):¬(((a:Nat):Int)=((b:Nat):Int)):=λe=>(K6 (aN [a,b] (ai af) ag (ai af) ag rfl (Lb (aN [a,b] af ag (ai af) (ai ag) rfl h) h1))) (Int.ofNat.inj e)
theorem SR(h:a<c)(h1:b=c):((a:Nat):Int)<((b:Nat):Int):=Lv.mpr (aK [a,c,b] (ai af) ak (ai af) ag ag ak rfl h (Kc h1.symm))
theorem SU(h:b=a):¬(((a:Nat):Int)<((b:Nat):Int)):=λe=>(K3.mpr (aN [b,a] af ag af ag rfl (Kc h))) (Lv.mp e)
theorem SV{a b c:Nat}(h:a<(min c b))(h1:c<b):a<b:=bH [a,(min c b),c,b] (ai af) au (ai af) ag (ai ak) au ag ak rfl h h1 (Lg _ _)
theorem SW{a b c:Nat}(h:a<(min b c))(h1:a=b)(h2:b<c):False:=Km 0 (K3.mp λn=>Km 0 (bH [a,(min b c),b,c] (aw 1) (aw 0) (ai af) ag ak af ag ak rfl h (Kc h1.symm) (Lg _ _)))
theorem SX(h:a<c)(h1:Nat.ble (c+1) b=true):(a+1)<b:=K1 h (Kg h1)
theorem SY(h:a<(b+1))(h1:b<=a):a=b:=Ku (aN [a,b] af ag (ai af) (ai ag) rfl h) (aN [a,b] ag af ag af rfl h1)
theorem S0{a b c d:Nat}(h:a<=c)(h1:b<=d):(a+b)<=(c+d):=Ld h h1
theorem S6{a b c d:Nat}(h:a<c)(h1:a<=c)(h2:b<=d):(a+b)<(c+d):=aK [a,c,b,d] (ai (aq af ak)) (aq ag au) (ai af) ag ak au rfl h h2
theorem S9{a b c d:Nat}(h:a<=c)(h1:b<d):(a+b)<(c+d):=Ld h h1
theorem Ta{a b c d:Nat}(h:a<=d)(h1:d=(b*c)):a<=(b*c):=h1▸h
theorem Tc(h:b=(d+1))(h1:c<(d+1))(h2:d<=e):(a-b)<=(a-c):=Nat.sub_le_sub_left (Ks (K5 h1) (Kc h.symm)) _
theorem Td(h:b=(d+1))(h1:c<(d+1))(h2:d<=e)(h3:Nat.ble (e+1) a=true):(a-b)<(a-c):=eJ [b,d,c,e,a,(a-b),(a-c)] (ai cn) dI (ai ag) af (ai ak) (ai ag) (aq cn af) aT aT (aq dI ak) rfl (Kc h.symm) h1 (kh (bH [b,d,c,e,a,(a-b),(a-c)] af aT af (ai ag) ag au (ai au) aT rfl (Kc h) h2 (Kg h3))) (ig _ _)
theorem Te{a b c d:Nat}(h:(max c d)=b)(h1:(min c d)=a):a<=b:=eJ [(max c d),b,(min c d),a,c,d] au ag af ag au ak aT af ak aT rfl (Kc h) (Kc h1.symm) (Mr _ _) (Lg _ _)
theorem Tg{a b c:Nat}(h:(min b c)=a)(h1:b<=c):a=b:=Ku (aK [(min b c),a,b,c] ag ak ag af af ak rfl (Kc h.symm) (Lg _ _)) (aK [(min b c),a,b,c] ak ag af ag ak af rfl (Kc h) (Kc (Mb (aN [(min b c),a,b,c] ak au ak au rfl h1)).symm))
theorem Ti{a b c:Nat}(h:(max c b)=a)(h1:c<=b):a=b:=Ku (aK [(max c b),a,c,b] ag au ag af af au rfl (Kc h.symm) (Kc (M1 (aN [(max c b),a,c,b] ak au ak au rfl h1)))) (aK [(max c b),a,c,b] au ag af ag au af rfl (Kc h) (Vi _ _))
theorem Tj{a b c:Nat}(h:(min c b)=a)(h1:¬(c<=b)):a=b:=Ku (aK [(min c b),a,b,c] ag ak ag af af ak rfl (Kc h.symm) (L8 _ _)) (aK [(min c b),a,b,c] ak ag af ag ak af rfl (Kc h) (Kc (M0 (aN [(min c b),a,b,c] ak au (ai ak) au rfl (Vq.mp h1))).symm))
theorem Tn{a b c d:Nat}(h:(max b c)=a)(h1:(min b c)=d)(h2:d=c)(h3:¬(b<=c)):a=b:=Ku (aK [(max b c),a,(min b c),d,c,b] ag cn ag af af cn rfl (Kc h.symm) (Kc (Ms (aN [(max b c),a,(min b c),d,c,b] aT cn (ai aT) cn rfl (Vq.mp h3))))) (aK [(max b c),a,(min b c),d,c,b] cn ag af ag cn af rfl (Kc h) (Mr _ _))
theorem To(h:a<=(c+1))(h1:c<d)(h2:c<=b)(h3:d<=b):a<=b:=bH [a,c,d,b] af au af (ai ag) (ai ag) ak ak au rfl h h1 h3
theorem Tp(h:a<=(b+1)):a<=(b+1):=h
theorem Tq(h:a=c)(h1:c=d)(h2:d<=e)(h3:e<=f)(h4:Nat.ble (f+1) b=true):a<=b:=Hp [a,c,d,e,f,b] af cn af ag ag ak ak au au aT (ai aT) cn rfl (Kc h) (Kc h1) h2 h3 (Kg h4)
theorem Tr(h:((a:Nat):Int)=((c:Nat):Int))(h1:c<b):a<b:=aK [a,c,b] (ai af) ak af ag (ai ag) ak rfl (Kc (Int.ofNat.inj h)) h1
theorem Ts{a b c d:Nat}(h:a<=c)(h1:c<b)(h2:d=c):a<b:=K1 (h2▸h) h1
theorem Tt(h:(a+1)<=b):a<b:=h
theorem Tv(h:a<b):(a+1)<(b+1):=L9 h
theorem Tw(h:a<=(16*c))(h1:b<=12)(h2:c<=12):(0+((13*a)+(b-0)))<=3000:=eJ [a,c,b,(b-0)] (aq (aw 0) (aq (aF 13 af) au)) (aw 3000) (aF 13 af) (aF 13 (aF 16 ag)) ak (aw 12) (aF 208 ag) (aF 208 (aw 12)) au ak rfl (Kk 13 h) h1 (Kk 208 h2) (Nat.sub_le _ _)
theorem Tx(h:a<b)(h1:a<=b):((a:Nat):Int)<((b:Nat):Int):=Lv.mpr (aN [a,b] (ai af) ag (ai af) ag rfl h)
theorem Tz(h:b<=12)(h1:(c+((13*d)+(e-c)))<=3000)(h2:c<e)(h3:(f+1)<=d)(h4:a=g)(h5:(g-(c+1))<=b):a<=1000000:=Ol h h1 h5 (Ks (Kc h4) (ig _ _))
theorem TA(h:(a+1)<=b):(a+1)<=(b+1):=Lz h
theorem TC(h:(a+1)<=d)(h1:(b-(c+1))<=f)(h2:f<=12):((13*a)+(b-(c+1)))<((13*d)+(e-c)):=bH [a,d,(b-(c+1)),f,b,c,(e-c),e] (ai (aq (aF 13 af) ak)) (aq (aF 13 ag) dI) (aF 13 (ai af)) (aF 13 ag) ak au au (aw 12) rfl (Kk 13 h) h1 h2
theorem TF(h:(a+((13*d)+(e-a)))<=3000)(h1:(b+1)<=d)(h2:(c-(a+1))<=f)(h3:f<=12):((a+1)+((13*b)+(c-(a+1))))<=3000:=eJ [a,d,(e-a),b,(c-(a+1)),f,e,c] (aq (ai af) (aq (aF 13 au) aT)) (aw 3000) (aq af (aq (aF 13 ag) ak)) (aw 3000) (aF 13 (ai au)) (aF 13 ag) aT cn cn (aw 12) rfl h (Kk 13 h1) h2 h3
theorem TG(h:a<=b)(h1:¬(a<b)):¬(((a:Nat):Int)<((b:Nat):Int)):=λe=>(K3.mpr (aN [a,b] ag af ag af rfl (K3.mp h1))) (Lv.mp e)
theorem TH{a b:Nat}(h:b<=a)(h1:¬(b<a)):a<=b:=aN [b,a] ag af ag af rfl (K3.mp h1)
theorem TJ:(min (a+1) (b+1))=((min a b)+1):=Nat.add_min_add_right a b 1
theorem TK(h:¬(a=b)):(a+1)≠(b+1):=λe=>h (Nat.succ.inj e)
theorem TL(h:(-(1:Int))<=a):(-(1:Int))<=(a+(1:Int)):=Int.le_add_one h
theorem TN(h:0<a):((a:Nat):Int)≠(0:Int):=λe=>(Ly (aN [a] (ai (aw 0)) af (ai (aw 0)) af rfl h)) (Int.ofNat.inj e)
theorem TP(h:(c+(1:Int))=((a:Nat):Int))(h1:a<b):((a:Nat):Int)<((b:Nat):Int):=Lv.mpr h1
theorem TQ(h:(c+(1:Int))=((a:Nat):Int))(h1:¬(a<b)):¬(((a:Nat):Int)<((b:Nat):Int)):=λe=>h1 (Lv.mp e)
theorem IB(h:a<2):(a=0)\/(a=1):=(Vt (Ls h)).imp Nat.lt_one_iff.mp id
theorem TR{a b:Nat}(h:a<=b):(min a b)<=b:=aN [a,b,(min a b)] ak ag ak ag rfl (L8 _ _)
theorem TS(h:a=1):a<=30:=h▸Kv _
theorem TU(h:(a+(3*(c+1)))<=900)(h1:b=1):((a+b)+(3*c))<=900:=aK [a,c,b] (aq (aq af ak) (aF 3 ag)) (aw 900) (aq af (aF 3 (ai ag))) (aw 900) ak (aw 1) rfl h (Kc h1)
theorem TV(h:(a+(c*(d+1)))<=e)(h1:b<=c):((a+b)+(c*d))<=e:=aK [a,(c*d),c,e,b] (aq (aq af aT) ag) au (aq af (aq ag ak)) au aT ak rfl h h1
theorem TX(h:c=(((min a b):Nat):Int)):((min a b)=a)\/((min a b)=b):=g7 rfl
theorem TY(h:c=(((max a b):Nat):Int))(h1:d=(((min a b):Nat):Int)):((max a b)=a)\/((max a b)=b):=g6 rfl
theorem T2(h:c=(((max a b):Nat):Int))(h1:d=(((min a b):Nat):Int)):(min a b)<=(max a b):=Ks (Lg ..) (Mr ..)
theorem T4(h:(min a b)<=(max a b))(h1:a≠b)(h2:c=(((max a b):Nat):Int))(h3:d=(((min a b):Nat):Int)):(min a b)<(max a b):=Cu h1
theorem T5(h:d<e)(h1:f<e)(h2:c=e)(h3:g=(((min a b):Nat):Int))(h4:i=(((max a b):Nat):Int))(h5:a<=d)(h6:b<=f):(max a b)<c:=h2▸Vr.mpr ⟨K1 h5 h,K1 h6 h1⟩
theorem T6(h:(a+1)<=b)(h1:a<=b):(a+1)<=b:=aN [a,b] (ai af) ag (ai af) ag rfl h
theorem T7(h:¬(a=0)):0<a:=Nat.pos_of_ne_zero h
theorem T8(h:(c+1)<=b)(h1:a<=c)(h2:c<=b):(a+1)<=b:=aK [c,b,a] (ai ak) ag (ai af) ag ak af rfl h h1
theorem T9(h:(a+1)<=c)(h1:a<=c)(h2:b=c):a<b:=aK [a,c,b] (ai af) ak (ai af) ag ag ak rfl h (Kc h2.symm)
theorem Ua(h:a<=c)(h1:b=(c+1)):a<b:=aK [a,c,b] (ai af) ak af ag (ai ag) ak rfl h (Kc h1.symm)
theorem Uc(h:(a+1)<=b)(h1:b<=a):False:=L0 _ (Lh h h1)
theorem Ud{a b c:Nat}(h:c<=b):(a-b)<=(a-c):=Nat.sub_le_sub_left h _
theorem Ue{a b c:Nat}(h:b<=a)(h1:c<b):(a-b)<(a-c):=bH [b,a,c,(a-b),(a-c)] (ai au) aT (ai ak) af (aq au af) ag ag (aq aT ak) rfl h1 (kh (aN [b,a,c,(a-b),(a-c)] af ag af ag rfl h)) (ig _ _)
theorem Ug(h:a=c)(h1:c=b):a=b:=h▸h1
theorem Uh(h:a=c)(h1:c=d)(h2:d=b):a=b:=h▸h1▸h2
theorem Ui{a b c d:Nat}(h:a<c)(h1:c<d)(h2:d=b):a<b:=bH [a,c,d,b] (ai af) au (ai af) ag (ai ag) ak ak au rfl h h1 (Kc h2)
theorem Uj{a b c d e:Nat}(h:a<=c)(h1:b=d)(h2:c<e)(h3:e=d):a<b:=eJ [a,c,b,d,e] (ai af) ak af ag au ak (ai ag) aT aT au rfl h (Kc h1.symm) h2 (Kc h3)
theorem Uk(h:¬(a<b)):¬(((a:Nat):Int)<((b:Nat):Int)):=λe=>(K3.mpr (aN [b,a] af ag af ag rfl (K3.mp h))) (Lv.mp e)
theorem Ul{a b c d e:Nat}(h:a<=c)(h1:b=d)(h2:c<d)(h3:e=c):a<b:=bH [a,c,b,d,e] (ai af) ak af ag au ak (ai ag) au rfl h (Kc h1.symm) h2
theorem Um{a b:Nat}(h:a≠b)(h1:a<=b):a<b:=Lb h1 h
theorem Un{a b c d:Nat}(h:a<=c)(h1:c<d)(h2:d<b):a<b:=bH [a,c,d,b] (ai af) au af ag (ai ag) ak (ai ak) au rfl h h1 h2
theorem Uo:0<(a+1):=Kq _ _
theorem Up(h:(c+d)<=e)(h1:a<=(c+f))(h2:f<=d)(h3:Nat.ble (e+1) b=true):a<=b:=eJ [c,d,e,a,f,b] au cn (aq af ag) ak au (aq af aT) aT ag (ai ak) cn rfl h h1 h2 (Kg h3)
theorem Uq(h:Nat.ble (a+1) c=true):(min a b)<=c:=Ks (Lg _ _) (K5 (Kg h))
theorem Ur(h:a<3):(a=0)\/((a=1)\/(a=2)):=(Vt (Ls h)).elim (λe=>(IB e).imp_right .inl) λe=>.inr (.inr e)
theorem Us(h:a<d)(h1:Nat.ble (d+1) c=true):(min a b)<c:=bH [a,d,c,(min a b),b] (ai au) ak (ai af) ag (ai ag) ak au af rfl h (Kg h1) (Lg _ _)
theorem Ut:((1:Int)+((a:Nat):Int))=(((1+a):Nat):Int):=rfl
theorem Uv(h:a<b):(1+a)<=b:=aN [a,b] (aq (aw 1) af) ag (ai af) ag rfl h
theorem Uw(h:a<3):(3+a)<9000:=aN [a] (ai (aq (aw 3) af)) (aw 9000) (ai af) (aw 3) rfl h
theorem Ux(h:a<=(3+b))(h1:b<3):a<12:=aK [a,b] (ai af) (aw 12) af (aq (aw 3) ag) (ai ag) (aw 3) rfl h h1
theorem Uy(h:a<=(b+c)):a<=(b+(c+1)):=Mu h
theorem Uz(h:a<=(b+c)):(a+1)<=(b+(c+1)):=L9 h
theorem UA(h:a<=3):(3+a)<=6:=aN [a] (aq (aw 3) af) (aw 6) af (aw 3) rfl h
theorem UC(h:a<=(3+b))(h1:b<=3):a<=6:=aK [a,b] af (aw 6) af (aq (aw 3) ag) ag (aw 3) rfl h h1
theorem UD(h:a<3):(min a 2)=a:=Ku (aN [a,(min a 2)] ag af ag af rfl (Lg _ _)) (aN [a,(min a 2)] af ag af ag rfl (Kc (Mb (aN [a,(min a 2)] af (aw 2) (ai af) (aw 3) rfl h)).symm))
theorem UE(h:a<1000)(h1:b<2):(a+b)<10000:=aK [a,b] (ai (aq af ag)) (aw 10000) (ai af) (aw 1000) (ai ag) (aw 2) rfl h h1
theorem UG(h:a=(b+c))(h1:b<=10)(h2:c=d)(h3:d<2):a<=1000000:=eJ [a,b,c,d] af (aw 1000000) af (aq ag ak) ag (aw 10) ak au (ai au) (aw 2) rfl (Kc h) h1 (Kc h2) h3
theorem UH(h:a<1000)(h1:b<=2):(a+b)<10000:=aK [a,b] (ai (aq af ag)) (aw 10000) (ai af) (aw 1000) ag (aw 2) rfl h h1
theorem UJ{a b c:Nat}(h:b<=c):(a+b)<=(a+c):=aN [b,c,a] (aq ak af) (aq ak ag) af ag rfl h
theorem UK(h:a<1000):(a+2)<=100000:=K1 h (by decide)
theorem UM{a b c d:Nat}(h:(min c d)=b)(h1:a<(min c d)):a<b:=h▸h1
theorem UN(h:(a-c)=0)(h1:a≥c)(h2:c=b):a=b:=Ku (bH [(a-c),c,a,b] ak au af (aw 0) ag au ak (aq af ag) rfl (Kc h) (Kc h2) (ig _ _)) (aK [(a-c),c,a,b] au ak ag ak au ag rfl h1 (Kc h2.symm))
theorem UO(h:(min a b)=d)(h1:d<=b)(h2:Nat.ble (b+1) c=true):(min a b)<=c:=Ks (h▸h1) (K5 (Kg h2))
theorem UP(h:(a+(30*8))<=3000):(a+20)<9900:=aN [a] (ai (aq af (aw 20))) (aw 9900) (aq af (aF 30 (aw 8))) (aw 3000) rfl h
theorem UQ(h:a<=(10+(5*b)))(h1:b<3):a<1000:=aK [a,b] (ai af) (aw 1000) af (aq (aw 10) (aF 5 ag)) (aF 5 (ai ag)) (aF 5 (aw 3)) rfl h (Kk 5 h1)
theorem UT(h:a<=(2*b))(h1:b<3):a<=10:=aK [a,b] af (aw 10) af (aF 2 ag) (aF 2 (ai ag)) (aF 2 (aw 3)) rfl h (Kk 2 h1)
theorem UW(h:a<=(10+(5*b)))(h1:b<3):(a+2)<1000:=aK [a,b] (ai (aq af (aw 2))) (aw 1000) af (aq (aw 10) (aF 5 ag)) (aF 5 (ai ag)) (aF 5 (aw 3)) rfl h (Kk 5 h1)
theorem UX(h:a<=(6+b))(h1:b<3):a<12:=aK [a,b] (ai af) (aw 12) af (aq (aw 6) ag) (ai ag) (aw 3) rfl h h1
theorem UY:(a<=a)/\(a<=(a+1)):=⟨(dF [a] af af rfl),(dF [a] af (ai af) rfl)⟩
theorem UZ:(a<=(a+1))/\((a+1)<=(a+1)):=⟨(dF [a] af (ai af) rfl),(dF [a] (ai af) (ai af) rfl)⟩
theorem U4(h:(a<=c)/\(c<=(a+1)))(h1:b=c):a<=b:=aK [a,c,b] af ak af ag ag ak rfl h.1 (Kc h1.symm)
theorem U5(h:a<=(2*c))(h1:b<=2)(h2:c<3):(a+b)<=100:=bH [a,c,b] (aq af ak) (aw 100) af (aF 2 ag) ak (aw 2) (aF 2 (ai ag)) (aF 2 (aw 3)) rfl h h1 (Kk 2 h2)
theorem U6(h:Nat.ble (b+1) c=true):((a+b)+1)<=(a+c):=aN [b,c,a] (ai (aq ak af)) (aq ak ag) (ai af) ag rfl (Kg h)
theorem U7(h:a<=(10+(5*b)))(h1:b<3):(a+3)<=100000:=aK [a,b] (aq af (aw 3)) (aw 100000) af (aq (aw 10) (aF 5 ag)) (aF 5 (ai ag)) (aF 5 (aw 3)) rfl h (Kk 5 h1)
theorem U8(h:a<=(c+(d*e)))(h1:Nat.ble (b+1) d=true):(a+b)<=(c+(d*(e+1))):=aK [a,c,(d*e),b,d] (aq af au) (aq ag (aq ak aT)) af (aq ag ak) (ai au) aT rfl h (Kg h1)
theorem VA(h:(b<=a)/\(a<=(b+1)))(h1:0<b):0<a:=aK [b,a] (ai (aw 0)) ag af ag (ai (aw 0)) af rfl h.1 h1
theorem VB(h:(d<=a)/\(a<=(d+1)))(h1:d<=(b+c)):a<=(b+(c+1)):=aK [d,a,b,c] ag (aq ak (ai au)) ag (ai af) af (aq ak au) rfl h.2 h1
theorem VC(h:a<=(c*d))(h1:b<=c):(a+b)<=(c*(d+1)):=Ld h h1
theorem VE(h:Nat.ble (a+1) b=true):a<=(b+(c*0)):=K5 (Kg h)
theorem VF(h:a<=b):a<=(b+0):=h
theorem VG:((¬(((a+1)+1)=a))/\(¬((((a+1)+1)+1)=a)))/\(¬(((a+1)+1)=a)):=⟨⟨(Ly (dF [a] (ai af) (ai (ai af)) rfl)),(Ly (dF [a] (ai af) (ai (ai (ai af))) rfl))⟩,(Ly (dF [a] (ai af) (ai (ai af)) rfl))⟩
theorem VH(h:a=b)(h1:¬((63:Int)<((b:Nat):Int))):a<=1000:=aK [a,b] af (aw 1000) af ag ag (aw 63) rfl (Kc h) (K3.mp (λe=>h1 (Lv.mpr e)))
set_option hygiene false
set_option tactic.hygienic false
local macro_rules
  | `(tactic| have' $x:ident : $t := $e) => `(tactic| (refine (?_ : $t → _) $e; intro $x:ident))
section
set_option genSizeOf false
set_option genInjectivity false
open PySem PySem.W PySem.Calls PyProof.Rows
inductive E2 {α β:Type} (p:α->β->Prop):Prop
 | mk (a:α) (b:β) (i:p a b):E2 p
inductive E3 {α β γ:Type} (p:α->β->γ->Prop):Prop
 | mk (a:α) (b:β) (c:γ) (i:p a b c):E3 p
inductive E4 {α β γ δ:Type} (p:α->β->γ->δ->Prop):Prop
 | mk (a:α) (b:β) (c:γ) (d:δ) (i:p a b c d):E4 p
inductive E5 {α β γ δ ε:Type} (p:α->β->γ->δ->ε->Prop):Prop
 | mk (a:α) (b:β) (c:γ) (d:δ) (e:ε) (i:p a b c d e):E5 p
inductive E6 {α β γ δ ε ζ:Type} (p:α->β->γ->δ->ε->ζ->Prop):Prop
 | mk (a:α) (b:β) (c:γ) (d:δ) (e:ε) (f:ζ) (i:p a b c d e f):E6 p
inductive E7 {α β γ δ ε ζ η:Type} (p:α->β->γ->δ->ε->ζ->η->Prop):Prop
 | mk (a:α) (b:β) (c:γ) (d:δ) (e:ε) (f:ζ) (g:η) (i:p a b c d e f g):E7 p
inductive E8 {α β γ δ ε ζ η θ:Type} (p:α->β->γ->δ->ε->ζ->η->θ->Prop):Prop
 | mk (a:α) (b:β) (c:γ) (d:δ) (e:ε) (f:ζ) (g:η) (h:θ) (i:p a b c d e f g h):E8 p
inductive E9 {α β γ δ ε ζ η θ κ:Type} (p:α->β->γ->δ->ε->ζ->η->θ->κ->Prop):Prop
 | mk (a:α) (b:β) (c:γ) (d:δ) (e:ε) (f:ζ) (g:η) (h:θ) (j:κ) (i:p a b c d e f g h j):E9 p
inductive IC {α β γ δ ε ζ η θ κ ρ:Type} (p:α->β->γ->δ->ε->ζ->η->θ->κ->ρ->Prop):Prop
 | mk (a:α) (b:β) (c:γ) (d:δ) (e:ε) (f:ζ) (g:η) (h:θ) (j:κ) (k:ρ) (i:p a b c d e f g h j k):IC p
inductive CW {α β γ δ ε ζ η θ κ ρ μ ν:Type} (p:α->β->γ->δ->ε->ζ->η->θ->κ->ρ->μ->ν->Prop):Prop
 | mk (a:α) (b:β) (c:γ) (d:δ) (e:ε) (f:ζ) (g:η) (h:θ) (j:κ) (k:ρ) (l:μ) (m:ν) (i:p a b c d e f g h j k l m):CW p
inductive A3 (a0 a1 a2:Prop):Prop
 | mk (h0:a0) (h1:a1) (h2:a2)
inductive A4 (a0 a1 a2 a3:Prop):Prop
 | mk (h0:a0) (h1:a1) (h2:a2) (h3:a3)
inductive A5 (a0 a1 a2 a3 a4:Prop):Prop
 | mk (h0:a0) (h1:a1) (h2:a2) (h3:a3) (h4:a4)
inductive A6 (a0 a1 a2 a3 a4 a5:Prop):Prop
 | mk (h0:a0) (h1:a1) (h2:a2) (h3:a3) (h4:a4) (h5:a5)
inductive A7 (a0 a1 a2 a3 a4 a5 a6:Prop):Prop
 | mk (h0:a0) (h1:a1) (h2:a2) (h3:a3) (h4:a4) (h5:a5) (h6:a6)
inductive A8 (a0 a1 a2 a3 a4 a5 a6 a7:Prop):Prop
 | mk (h0:a0) (h1:a1) (h2:a2) (h3:a3) (h4:a4) (h5:a5) (h6:a6) (h7:a7)
inductive A9 (a0 a1 a2 a3 a4 a5 a6 a7 a8:Prop):Prop
 | mk (h0:a0) (h1:a1) (h2:a2) (h3:a3) (h4:a4) (h5:a5) (h6:a6) (h7:a7) (h8:a8)
inductive pO (a0 a1 a2 a3 a4 a5 a6 a7 a8 a9:Prop):Prop
 | mk (h0:a0) (h1:a1) (h2:a2) (h3:a3) (h4:a4) (h5:a5) (h6:a6) (h7:a7) (h8:a8) (h9:a9)
inductive CX (a0 a1 a2 a3 a4 a5 a6 a7 a8 a9 nT:Prop):Prop
 | mk (h0:a0) (h1:a1) (h2:a2) (h3:a3) (h4:a4) (h5:a5) (h6:a6) (h7:a7) (h8:a8) (h9:a9) (iq:nT)
inductive VI (a0 a1 a2 a3 a4 a5 a6 a7 a8 a9 nT pP:Prop):Prop
 | mk (h0:a0) (h1:a1) (h2:a2) (h3:a3) (h4:a4) (h5:a5) (h6:a6) (h7:a7) (h8:a8) (h9:a9) (iq:nT) (kH:pP)
inductive IE (a0 a1 a2 a3 a4 a5 a6 a7 a8 a9 nT pP ug:Prop):Prop
 | mk (h0:a0) (h1:a1) (h2:a2) (h3:a3) (h4:a4) (h5:a5) (h6:a6) (h7:a7) (h8:a8) (h9:a9) (iq:nT) (kH:pP) (bY:ug)
inductive VJ (a0 a1 a2 a3 a4 a5 a6 a7 a8 a9 nT pP ug CY:Prop):Prop
 | mk (h0:a0) (h1:a1) (h2:a2) (h3:a3) (h4:a4) (h5:a5) (h6:a6) (h7:a7) (h8:a8) (h9:a9) (iq:nT) (kH:pP) (bY:ug) (Bi:CY)
inductive VL (a0 a1 a2 a3 a4 a5 a6 a7 a8 a9 nT pP ug CY VM VN VO:Prop):Prop
 | mk (h0:a0) (h1:a1) (h2:a2) (h3:a3) (h4:a4) (h5:a5) (h6:a6) (h7:a7) (h8:a8) (h9:a9) (iq:nT) (kH:pP) (bY:ug) (Bi:CY) (IG:VM) (IH:VN) (II:VO)
theorem jP{α0 α1:Type}{p1 p2 p3:α0->α1->Prop}{G:Prop}(h:(E2 λx0 x1=>(A3 (p1 x0 x1) (p2 x0 x1) (p3 x0 x1))))(k:∀x0,∀x1,p1 x0 x1->p2 x0 x1->p3 x0 x1->G):G:=h.casesOn λx0 x1 i0=>i0.casesOn λh0 h1 h2=>k x0 x1 h0 h1 h2
theorem xC{α0 α1:Type}{p1 p2:α0->α1->Prop}{G:Prop}(h:(E2 λx0 x1=>((p1 x0 x1)/\(p2 x0 x1))))(k:∀x0,∀x1,p1 x0 x1->p2 x0 x1->G):G:=h.casesOn λx0 x1 i0=>i0.casesOn λh0 h1=>k x0 x1 h0 h1
theorem yn{α0 α1 α2 α3 α4:Type}{p1 p2 p3 p4 p5:α0->α1->α2->α3->α4->Prop}{G:Prop}(h:(E5 λx0 x1 x2 x3 x4=>(A5 (p1 x0 x1 x2 x3 x4) (p2 x0 x1 x2 x3 x4) (p3 x0 x1 x2 x3 x4) (p4 x0 x1 x2 x3 x4) (p5 x0 x1 x2 x3 x4))))(k:∀x0,∀x1,∀x2,∀x3,∀x4,p1 x0 x1 x2 x3 x4->p2 x0 x1 x2 x3 x4->p3 x0 x1 x2 x3 x4->p4 x0 x1 x2 x3 x4->p5 x0 x1 x2 x3 x4->G):G:=h.casesOn λx0 x1 x2 x3 x4 i0=>i0.casesOn λh0 h1 h2 h3 h4=>k x0 x1 x2 x3 x4 h0 h1 h2 h3 h4
theorem Qe{p1 p2 p3:Prop}{G:Prop}(h:(p1/\(p2/\p3)))(k:p1->p2->p3->G):G:=h.casesOn λh0 i0=>i0.casesOn λh1 h2=>k h0 h1 h2
theorem zJ{α0:Type}{p1:Prop}{p2 p3:α0->Prop}{G:Prop}(h:(p1/\(∃x0,((p2 x0)/\(p3 x0)))))(k:p1->∀x0,p2 x0->p3 x0->G):G:=h.casesOn λh0 i0=>i0.casesOn λx0 i1=>i1.casesOn λh1 h2=>k h0 x0 h1 h2
theorem JW{α0 α1:Type}{p1:Prop}{p2 p3:α0->α1->Prop}{G:Prop}(h:(p1/\(∃x0,(∃x1,((p2 x0 x1)/\(p3 x0 x1))))))(k:p1->∀x0,∀x1,p2 x0 x1->p3 x0 x1->G):G:=h.casesOn λh0 i0=>i0.casesOn λx0 i1=>i1.casesOn λx1 i2=>i2.casesOn λh1 h2=>k h0 x0 x1 h1 h2
theorem gL{α0:Type}{p1 p2 p3:α0->Prop}{G:Prop}(h:(∃x0,(A3 (p1 x0) (p2 x0) (p3 x0))))(k:∀x0,p1 x0->p2 x0->p3 x0->G):G:=h.casesOn λx0 i0=>i0.casesOn λh0 h1 h2=>k x0 h0 h1 h2
theorem q7{α0:Type}{p1 p2 p3 p4:α0->Prop}{G:Prop}(h:(∃x0,(A4 (p1 x0) (p2 x0) (p3 x0) (p4 x0))))(k:∀x0,p1 x0->p2 x0->p3 x0->p4 x0->G):G:=h.casesOn λx0 i0=>i0.casesOn λh0 h1 h2 h3=>k x0 h0 h1 h2 h3
theorem gr{α0 α1:Type}{p1 p2 p3:α0->Prop}{p4 p5:α0->α1->Prop}{G:Prop}(h:(∃x0,(A4 (p1 x0) (p2 x0) (p3 x0) (∃x1,((p4 x0 x1)/\(p5 x0 x1))))))(k:∀x0,p1 x0->p2 x0->p3 x0->∀x1,p4 x0 x1->p5 x0 x1->G):G:=h.casesOn λx0 i0=>i0.casesOn λh0 h1 h2 i1=>i1.casesOn λx1 i2=>i2.casesOn λh3 h4=>k x0 h0 h1 h2 x1 h3 h4
theorem zV{α0:Type}{p1 p2:α0->Prop}{G:Prop}(h:(∃x0,((p1 x0)/\(p2 x0))))(k:∀x0,p1 x0->p2 x0->G):G:=h.casesOn λx0 i0=>i0.casesOn λh0 h1=>k x0 h0 h1
theorem qv{α0:Type}{p1 p2 p3:α0->Prop}{G:Prop}(h:(∃x0,((p1 x0)/\((p2 x0)/\(p3 x0)))))(k:∀x0,p1 x0->p2 x0->p3 x0->G):G:=h.casesOn λx0 i0=>i0.casesOn λh0 i1=>i1.casesOn λh1 h2=>k x0 h0 h1 h2
theorem xM{α0 α1:Type}{p1 p2:α0->Prop}{p3:α0->α1->Prop}{G:Prop}(h:(∃x0,((p1 x0)/\((p2 x0)/\(∃x1,(p3 x0 x1))))))(k:∀x0,p1 x0->p2 x0->∀x1,p3 x0 x1->G):G:=h.casesOn λx0 i0=>i0.casesOn λh0 i1=>i1.casesOn λh1 i2=>i2.casesOn λx1 h2=>k x0 h0 h1 x1 h2
theorem JX{α0 α1:Type}{p1:α0->Prop}{p2:α0->α1->Prop}{G:Prop}(h:(∃x0,((p1 x0)/\(∃x1,(p2 x0 x1)))))(k:∀x0,p1 x0->∀x1,p2 x0 x1->G):G:=h.casesOn λx0 i0=>i0.casesOn λh0 i1=>i1.casesOn λx1 h1=>k x0 h0 x1 h1
theorem gs{α0 α1 α2:Type}{p1:α0->Prop}{p2 p3:α0->α1->α2->Prop}{G:Prop}(h:(∃x0,((p1 x0)/\(∃x1,(∃x2,((p2 x0 x1 x2)/\(p3 x0 x1 x2)))))))(k:∀x0,p1 x0->∀x1,∀x2,p2 x0 x1 x2->p3 x0 x1 x2->G):G:=h.casesOn λx0 i0=>i0.casesOn λh0 i1=>i1.casesOn λx1 i2=>i2.casesOn λx2 i3=>i3.casesOn λh1 h2=>k x0 h0 x1 x2 h1 h2
theorem Jb{α0 α1:Type}{p1:α0->α1->Prop}{G:Prop}(h:(∃x0,(∃x1,(p1 x0 x1))))(k:∀x0,∀x1,p1 x0 x1->G):G:=h.casesOn λx0 i0=>i0.casesOn λx1 h0=>k x0 x1 h0
theorem j8{α0 α1:Type}{p1 p2:α0->α1->Prop}{G:Prop}(h:(∃x0,(∃x1,((p1 x0 x1)/\(p2 x0 x1)))))(k:∀x0,∀x1,p1 x0 x1->p2 x0 x1->G):G:=h.casesOn λx0 i0=>i0.casesOn λx1 i1=>i1.casesOn λh0 h1=>k x0 x1 h0 h1
theorem g8{α0 α1:Type}{p1 p2 p3:α0->α1->Prop}{G:Prop}(h:(∃x0,(∃x1,((p1 x0 x1)/\((p2 x0 x1)/\(p3 x0 x1))))))(k:∀x0,∀x1,p1 x0 x1->p2 x0 x1->p3 x0 x1->G):G:=h.casesOn λx0 i0=>i0.casesOn λx1 i1=>i1.casesOn λh0 i2=>i2.casesOn λh1 h2=>k x0 x1 h0 h1 h2
theorem Zm{α0 α1:Type}{p1 p2 p3 p4 p5 p6:α0->α1->Prop}{G:Prop}(h:(∃x0,(∃x1,((p1 x0 x1)/\((p2 x0 x1)/\((p3 x0 x1)/\((p4 x0 x1)/\((p5 x0 x1)/\(p6 x0 x1)))))))))(k:∀x0,∀x1,p1 x0 x1->p2 x0 x1->p3 x0 x1->p4 x0 x1->p5 x0 x1->p6 x0 x1->G):G:=h.casesOn λx0 i0=>i0.casesOn λx1 i1=>i1.casesOn λh0 i2=>i2.casesOn λh1 i3=>i3.casesOn λh2 i4=>i4.casesOn λh3 i5=>i5.casesOn λh4 h5=>k x0 x1 h0 h1 h2 h3 h4 h5
theorem Zn{α0 α1 α2:Type}{p1 p2:α0->α1->α2->Prop}{G:Prop}(h:(∃x0,(∃x1,(∃x2,((p1 x0 x1 x2)/\(p2 x0 x1 x2))))))(k:∀x0,∀x1,∀x2,p1 x0 x1 x2->p2 x0 x1 x2->G):G:=h.casesOn λx0 i0=>i0.casesOn λx1 i1=>i1.casesOn λx2 i2=>i2.casesOn λh0 h1=>k x0 x1 x2 h0 h1
theorem JM{α0 α1 α2:Type}{p1 p2 p3:α0->α1->α2->Prop}{G:Prop}(h:(∃x0,(∃x1,(∃x2,((p1 x0 x1 x2)/\((p2 x0 x1 x2)/\(p3 x0 x1 x2)))))))(k:∀x0,∀x1,∀x2,p1 x0 x1 x2->p2 x0 x1 x2->p3 x0 x1 x2->G):G:=h.casesOn λx0 i0=>i0.casesOn λx1 i1=>i1.casesOn λx2 i2=>i2.casesOn λh0 i3=>i3.casesOn λh1 h2=>k x0 x1 x2 h0 h1 h2
theorem jy{α0 α1 α2:Type}{p1 p2 p3 p4:α0->α1->α2->Prop}{G:Prop}(h:(∃x0,(∃x1,(∃x2,((p1 x0 x1 x2)/\((p2 x0 x1 x2)/\((p3 x0 x1 x2)/\(p4 x0 x1 x2))))))))(k:∀x0,∀x1,∀x2,p1 x0 x1 x2->p2 x0 x1 x2->p3 x0 x1 x2->p4 x0 x1 x2->G):G:=h.casesOn λx0 i0=>i0.casesOn λx1 i1=>i1.casesOn λx2 i2=>i2.casesOn λh0 i3=>i3.casesOn λh1 i4=>i4.casesOn λh2 h3=>k x0 x1 x2 h0 h1 h2 h3
theorem q8{α0 α1 α2:Type}{p1 p2 p3 p4 p5:α0->α1->α2->Prop}{G:Prop}(h:(∃x0,(∃x1,(∃x2,((p1 x0 x1 x2)/\((p2 x0 x1 x2)/\((p3 x0 x1 x2)/\((p4 x0 x1 x2)/\(p5 x0 x1 x2)))))))))(k:∀x0,∀x1,∀x2,p1 x0 x1 x2->p2 x0 x1 x2->p3 x0 x1 x2->p4 x0 x1 x2->p5 x0 x1 x2->G):G:=h.casesOn λx0 i0=>i0.casesOn λx1 i1=>i1.casesOn λx2 i2=>i2.casesOn λh0 i3=>i3.casesOn λh1 i4=>i4.casesOn λh2 i5=>i5.casesOn λh3 h4=>k x0 x1 x2 h0 h1 h2 h3 h4
theorem yw{α0 α1 α2:Type}{p1 p2 p3 p4 p5 p6:α0->α1->α2->Prop}{G:Prop}(h:(∃x0,(∃x1,(∃x2,((p1 x0 x1 x2)/\((p2 x0 x1 x2)/\((p3 x0 x1 x2)/\((p4 x0 x1 x2)/\((p5 x0 x1 x2)/\(p6 x0 x1 x2))))))))))(k:∀x0,∀x1,∀x2,p1 x0 x1 x2->p2 x0 x1 x2->p3 x0 x1 x2->p4 x0 x1 x2->p5 x0 x1 x2->p6 x0 x1 x2->G):G:=h.casesOn λx0 i0=>i0.casesOn λx1 i1=>i1.casesOn λx2 i2=>i2.casesOn λh0 i3=>i3.casesOn λh1 i4=>i4.casesOn λh2 i5=>i5.casesOn λh3 i6=>i6.casesOn λh4 h5=>k x0 x1 x2 h0 h1 h2 h3 h4 h5
theorem Zo{α0 α1 α2 α3:Type}{p1 p2 p3 p4:α0->α1->α2->α3->Prop}{G:Prop}(h:(∃x0,(∃x1,(∃x2,(∃x3,((p1 x0 x1 x2 x3)/\((p2 x0 x1 x2 x3)/\((p3 x0 x1 x2 x3)/\(p4 x0 x1 x2 x3)))))))))(k:∀x0,∀x1,∀x2,∀x3,p1 x0 x1 x2 x3->p2 x0 x1 x2 x3->p3 x0 x1 x2 x3->p4 x0 x1 x2 x3->G):G:=h.casesOn λx0 i0=>i0.casesOn λx1 i1=>i1.casesOn λx2 i2=>i2.casesOn λx3 i3=>i3.casesOn λh0 i4=>i4.casesOn λh1 i5=>i5.casesOn λh2 h3=>k x0 x1 x2 x3 h0 h1 h2 h3
theorem xi{α0 α1 α2 α3:Type}{p1 p2 p3 p4 p5 p6 p7:α0->α1->α2->α3->Prop}{G:Prop}(h:(∃x0,(∃x1,(∃x2,(∃x3,((p1 x0 x1 x2 x3)/\((p2 x0 x1 x2 x3)/\((p3 x0 x1 x2 x3)/\((p4 x0 x1 x2 x3)/\((p5 x0 x1 x2 x3)/\((p6 x0 x1 x2 x3)/\(p7 x0 x1 x2 x3))))))))))))(k:∀x0,∀x1,∀x2,∀x3,p1 x0 x1 x2 x3->p2 x0 x1 x2 x3->p3 x0 x1 x2 x3->p4 x0 x1 x2 x3->p5 x0 x1 x2 x3->p6 x0 x1 x2 x3->p7 x0 x1 x2 x3->G):G:=h.casesOn λx0 i0=>i0.casesOn λx1 i1=>i1.casesOn λx2 i2=>i2.casesOn λx3 i3=>i3.casesOn λh0 i4=>i4.casesOn λh1 i5=>i5.casesOn λh2 i6=>i6.casesOn λh3 i7=>i7.casesOn λh4 i8=>i8.casesOn λh5 h6=>k x0 x1 x2 x3 h0 h1 h2 h3 h4 h5 h6
theorem qM{α0 α1 α2 α3 α4 α5 α6 α7:Type}{p1 p2:α0->α1->α2->α3->α4->α5->α6->α7->Prop}{G:Prop}(h:(∃x0,(∃x1,(∃x2,(∃x3,(∃x4,(∃x5,(∃x6,(∃x7,((p1 x0 x1 x2 x3 x4 x5 x6 x7)/\(p2 x0 x1 x2 x3 x4 x5 x6 x7)))))))))))(k:∀x0,∀x1,∀x2,∀x3,∀x4,∀x5,∀x6,∀x7,p1 x0 x1 x2 x3 x4 x5 x6 x7->p2 x0 x1 x2 x3 x4 x5 x6 x7->G):G:=h.casesOn λx0 i0=>i0.casesOn λx1 i1=>i1.casesOn λx2 i2=>i2.casesOn λx3 i3=>i3.casesOn λx4 i4=>i4.casesOn λx5 i5=>i5.casesOn λx6 i6=>i6.casesOn λx7 i7=>i7.casesOn λh0 h1=>k x0 x1 x2 x3 x4 x5 x6 x7 h0 h1
structure Bs where
 prog:Program
 w:World
 h0:Heap
 mg:Str->Option Value
 mb:Str->Option Value
 os:OsState
 X:Frag.In (hd.heap_1_39 w.params) h0
 g:h0.Ns mainGlobals mg
 b:h0.Ns builtinsNs mb
 nolimit:h0.NoLimit
 fz:List (Addr × Value)
 blt:∀x:Str,x≠"__name__"->mb x=bootBuiltins x
@[reducible] noncomputable def Bs.K(B:Bs):Frag:=hd.heap_1_39 B.w.params
noncomputable abbrev ji(xs:List Value)(n:Nat):Obj:={ cls:=.type "list",data:=.seq xs.toArray n }
noncomputable abbrev wp(xs:List Value)(n:Nat):Obj:={ cls:=.type "tuple",data:=.seq xs.toArray n }
noncomputable abbrev Q5(es:List DictEntry)(n:Nat):Obj:={ cls:=.type "dict",data:=.dict es.toArray n }
noncomputable abbrev jz(es:List (Int × Value))(n:Nat)(t:SetTable):Obj:={ cls:=.type "set",data:=.set es.toArray n t }
noncomputable abbrev zd(C d:Addr):Obj:={ cls:=.ref C,dict:=some d }
noncomputable abbrev Vs:=List (Str × Value)
noncomputable def zo(vs:Vs)(x:Str):Option Value:=vs.lookup x
noncomputable def zi:Vs->Str->Value->Vs
 | [],x,v=>[(x,v)]
 | (y,u)::r,x,v=>if y=x then(y,v)::r else(y,u)::zi r x v
noncomputable def j9:List DictEntry->Vs->Prop
 | [],[]=>True
 | e::es,kv::r=>(∃t,e.key = .str kv.1 t)/\e.val=kv.2/\j9 es r
 | _,_=>False
inductive jn where
 | is (o:Obj)
 | list (xs:List Value)
 | tup (xs:List Value)
 | dict (es:List DictEntry)
 | attrs (kvs:Vs)
 | set (es:List (Int × Value)) (t:SetTable)
noncomputable def jn.Fits:jn->Obj->Prop
 | .is o,o'=>o'=o/\o.isFreed=false
 | .list xs,o'=>∃n,o'=ji xs n
 | .tup xs,o'=>∃n,o'=wp xs n
 | .dict es,o'=>∃n,o'=Q5 es n
 | .attrs kvs,o'=>∃es n,o'=Q5 es n/\j9 es kvs
 | .set es t,o'=>∃n,o'=jz es n t
noncomputable abbrev Mp:=Addr->Option jn
noncomputable def Mp.le(k k':Mp):Prop:=∀a c,k a=some c->k' a=some c
noncomputable def upd(m:Mp)(a:Addr)(c:jn):Mp:=λb=>if b=a then some c else m b
theorem za(m:Mp)(a:Addr)(c:jn):upd m a c a=some c:=if_pos rfl
theorem zb(m:Mp){a b:Addr}(c:jn)(h:b≠a):upd m a c b=m b:=if_neg h
theorem IJ(m:Mp)(a:Addr)(c c':jn):upd (upd m a c) a c'=upd m a c':=by
 funext b;unfold upd;split <;> rfl
theorem Mp.le_refl(k:Mp):k.le k:=λZZ ZZ h=>h
theorem Mp.le_trans{k k' IK:Mp}(h:k.le k')(h':k'.le IK):k.le IK:=λa c q=>h' a c (h a c q)
theorem Mp.eS(m:Mp){a:Addr}(c:jn)(h:m a=none):m.le (upd m a c):=λb x q=>by
 exact ae (zb _ _ (λe=>by rw[e,h]at q;injection q)) q
structure St where
 k:Mp
 b:Mp
 u:Mp
 l:Mp
 h:Mp
 v:Mp
 p:Mp
 m:Mp
inductive Rg where | k | b | u | l | h | v | p | m
@[reducible] noncomputable def St.get(S:St):Rg->Mp
 | .k=>S.k
 | .b=>S.b
 | .u=>S.u
 | .l=>S.l
 | .h=>S.h
 | .v=>S.v
 | .p=>S.p
 | .m=>S.m
@[reducible] noncomputable def St.to(S:St):Rg->Mp->St
 | .k,M=>⟨M,S.b,S.u,S.l,S.h,S.v,S.p,S.m⟩
 | .b,M=>⟨S.k,M,S.u,S.l,S.h,S.v,S.p,S.m⟩
 | .u,M=>⟨S.k,S.b,M,S.l,S.h,S.v,S.p,S.m⟩
 | .l,M=>⟨S.k,S.b,S.u,M,S.h,S.v,S.p,S.m⟩
 | .h,M=>⟨S.k,S.b,S.u,S.l,M,S.v,S.p,S.m⟩
 | .v,M=>⟨S.k,S.b,S.u,S.l,S.h,M,S.p,S.m⟩
 | .p,M=>⟨S.k,S.b,S.u,S.l,S.h,S.v,M,S.m⟩
 | .m,M=>⟨S.k,S.b,S.u,S.l,S.h,S.v,S.p,M⟩
theorem St.bk(S:St)(r:Rg)(M:Mp):(S.to r M).get r=M:=by cases r <;> rfl
theorem St.b8(S:St){r r':Rg}(M:Mp)(h:r'≠r):(S.to r M).get r'=S.get r':=by cases r <;> cases r' <;> first | rfl | exact absurd rfl h
@[reducible] noncomputable def St.put(S:St)(r:Rg)(a:Addr)(c:jn):St:=S.to r (upd (S.get r) a c)
noncomputable def St.has(S:St)(a:Addr)(c:jn):Prop:=∃r,S.get r a=some c
noncomputable def St.no(S:St)(a:Addr):Prop:=∀r,S.get r a=none
theorem St.bu{S:St}{a:Addr}{c:jn}(n:S.no a)(h:S.has a c):False:=by
 refine aB h λr h=>?_;rw[n r]at h;injection h
theorem St.cK{S:St}{a:Addr}(h:∀c,¬S.has a c):S.no a:=λr=>by
 cases q:S.get r a with
 | none=>rfl
 | some c=>exact absurd ⟨r,q⟩ (h c)
noncomputable def St.One(S:St)(a:Addr):Prop:=∀r r' c c',S.get r a=some c->S.get r' a=some c'->r=r'
noncomputable def Ok(B:Bs)(S:St)(X:Addr->Option Obj)(s:Shared):Prop:=A8
 ((∀a o,B.h0.get? a=some o->X a=some o)/\∀c v,(c,v)∈B.fz->∃o,X c=some o/\o.data = .cell (some v))
 (∀a o,X a=some o->s.heap.get? a=some o)
 (∀a c,S.has a c->∃o,s.heap.get? a=some o/\c.Fits o)
 (∀a c,S.has a c->X a=none)
 (∀a,S.One a)
 (∀a c,S.has a c->a≠sysModules)
 (s.os=B.os)
 (s.gens = #[])
noncomputable def cf:Value->Shared->Prop:=λZZ ZZ=>False
inductive Pv (B:Bs) (X:Addr->Option Obj) (P:St->Prop) (s:Shared):Prop
 | mk (S':St) (o:Ok B S' X s) (q:P S')
noncomputable def V{α:Type}(B:Bs)(A:Around)(S:St)(t:Sem α)(Q:α->St->Prop):Prop :=
 ∀X s,Ok B S X s->wpAny (model B.prog B.w) A t (λa=>Pv B X (Q a)) cf s
theorem zw(vs:Vs)(x:Str)(v:Value)(y:Str):zo (zi vs x v) y=if y=x then some v else zo vs y:=by
 induction vs with
 | nil =>
  unfold zi zo;by_cases h:y=x
  ·subst h;simp
  ·refine ae (if_neg h) ?_;refine ae Lc ?_;have' this:(y == x)=false:=by simpa using h
   exact ae this rfl
 | cons p r ih =>
  obtain⟨z,u⟩:=p;unfold zi;unfold zo at ih |-;by_cases hz:z=x
  ·subst hz;refine ae (if_pos rfl) ?_;refine ae Lc ?_;refine ae Lc ?_;by_cases h:y=z
   ·subst h;simp
   ·have' this:(y == z)=false:=by simpa using h
    refine ae this ?_;simp[h]
  ·refine ae (if_neg hz) ?_;refine ae Lc ?_;refine ae Lc ?_;by_cases h:y=z
   ·subst h;simp[hz]
   ·have' this:(y == z)=false:=by simpa using h
    refine ae this ?_;exact ih
noncomputable def zA(own:Bool)(env:Env)(vs:Vs)(S:St)(X:Addr->Option Obj)(s:Shared):Prop:=A7
 (∃m,s.heap.Ns env.locals m/\∀x v,env.kindOf x=some .local->zo vs x=some v->m x=some v)
 (∀x c,env.cells.lookup x=some c->∃v₀,s.heap.IsCell c v₀/\∀v,zo vs x=some v->v₀=some v)
 (X env.locals=none)
 (S.no env.locals)
 (∀x c,(x,c)∈env.cells->if own=true then X c=none/\S.no c/\c≠env.locals else ∃o,X c=some o)
 (own=true->env.cells.Pairwise λx y=>x.2≠y.2)
 (own=true->∀x c,(x,c)∈env.cells->env.cells.lookup x=some c)
inductive Pw (B:Bs) (own:Bool) (env:Env) (X:Addr->Option Obj) (P:Vs->St->Prop) (s:Shared):Prop
 | mk (vs':Vs) (S':St) (o:Ok B S' X s) (f:zA own env vs' S' X s) (q:P vs' S')
noncomputable def W{α:Type}(B:Bs)(A:Around)(own:Bool)(env:Env)(vs:Vs)(S:St)(t:Sem α)(Q:α->Vs->St->Prop):Prop :=
 ∀X s,Ok B S X s->zA own env vs S X s->wpAny (model B.prog B.w) A t (λa=>Pw B own env X (Q a)) cf s
section
variable {α β:Type} {B:Bs} {A:Around} {own:Bool} {env:Env} {vs:Vs} {S:St}
theorem Ok.toks(o:Ok B S X s)(t:Nat):Ok B S X { s with toks:=t }:=⟨o.1,o.2,o.3,o.4,o.5,o.6,o.7,o.8⟩
theorem zA.toks(o:zA own env vs S X s)(t:Nat):zA own env vs S X { s with toks:=t }:=⟨o.1,o.2,o.3,o.4,o.5,o.6,o.7⟩
theorem Ok.keep(o:Ok B S X s):∀a ob,B.h0.get? a=some ob->s.heap.get? a=some ob:=λa ob q=>o.2 a ob (o.1.1 a ob q)
theorem Ok.fE(o:Ok B S X s):B.K.In s.heap:=λa ob q=>o.keep a ob (B.X a ob q)
theorem VP(h:V B A S t Q)(hq:∀a S',Q a S'->Q' a S'):V B A S t Q' :=
 λX s o=>wpAny_mono (h X s o) (λ_ _ zp=>by obtain⟨S',o',q⟩:=zp;exact⟨S',o',hq _ _ q⟩) λZZ ZZ e=>e
theorem Zp(h:W B A own env vs S t Q)(hq:∀a vs' S',Q a vs' S'->Q' a vs' S'):W B A own env vs S t Q' :=
 λX s o f=>wpAny_mono (h X s o f) (λ_ _ zp=>by obtain⟨vs',S',o',f',q⟩:=zp;exact⟨vs',S',o',f',hq _ _ _ q⟩) λZZ ZZ e=>e
end
end
section
set_option genSizeOf false
set_option genInjectivity false
open PySem PySem.W PySem.Calls PyProof.Rows
section
variable {α β:Type} {B:Bs} {A:Around} {own:Bool} {env:Env} {vs:Vs} {S:St}
open Classical in
noncomputable def jF(own:Bool)(env:Env)(X:Addr->Option Obj)(h:Heap):Addr->Option Obj:=λa =>
 match X a with
 | some o=>some o
 | none=>if a=env.locals\/(own=true/\∃x,(x,a)∈env.cells) then h.get? a else none
theorem yx(e:X a=some o):jF own env X h a=some o:=by
 unfold jF;refine ae e ?_;rfl
set_option tactic.hygienic true in
theorem Ok.around(o:Ok B S X s)(f:zA own env vs S X s):Ok B S (jF own env X s.heap) s:=by
 refine⟨⟨λa ob q=>yx (o.1.1 a ob q),λc v q=>(by refine zt (o.1.2 c v q) λob e d=>?_;exact⟨ob,yx e,d⟩)⟩,λa ob q=>?_,o.3,λa c q=>?_,o.5,o.6,o.7,o.8⟩
 ·unfold Internal.jF at q;split at q
  ·rename_i o' e;obtain rfl:=Option.some.inj q;exact o.2 a _ e
  ·split at q
   ·exact q
   ·injection q
 ·unfold Internal.jF;refine ae (o.4 a c q) ?_;rw[if_neg];rintro(e | ⟨e,x,hx⟩)
  ·exact St.bu f.4 (e▸q)
  ·have' this:_:=f.5 x a hx;rw[if_pos e]at this;exact St.bu this.2.1 q
theorem Ok.dJ(o':Ok B S' (Internal.jF own env X s.heap) s')(o:Ok B S X s):Ok B S' X s':=by
 refine⟨o.1,λa ob q=>o'.2 a ob (yx q),o'.3,λa c q=>?_,o'.5,o'.6,o'.7,o'.8⟩;have:=o'.4 a c q;cases e:X a with
 | none=>rfl
 | some ob=>rw[yx e]at this;injection this
theorem gM(e:X env.locals=none):jF own env X h env.locals=h.get? env.locals:=by
 unfold Internal.jF;refine ae e ?_;refine ae (if_pos (.inl rfl)) ?_;rfl
theorem qN(e:X c=none)(hx:(x,c)∈env.cells)(ho:own=true):jF own env X h c=h.get? c:=by
 unfold Internal.jF;refine ae e ?_;refine ae (if_pos (.inr ⟨ho,x,hx⟩)) ?_;rfl
theorem zA.back(f:zA own env vs S X s)(o:Ok B S X s)(o':Ok B S' (Internal.jF own env X s.heap) s'):zA own env vs S' X s':=by
 refine zV f.1 λm fK hm=>?_;obtain⟨ol,es,ep,lL,r⟩:=fK;have' hl:s'.heap.get? env.locals=some ol:=o'.2 _ _ ((gM f.3).trans lL);refine⟨⟨m,⟨ol,es,ep,hl,r⟩,hm⟩,λx c e=>?_,f.3,?_,λx c e=>?_,f.6,f.7⟩
 ·have hx:=mem_of_lookup e;refine zV (f.2 x c e) λv₀ iu hv=>?_;obtain⟨oc,fL,hd⟩:=iu;have q:=f.5 x c hx;refine⟨v₀,⟨oc,?_,hd⟩,hv⟩;cases ow:own with
  | true =>
   rw[if_pos ow]at q;exact o'.2 _ _ ((qN q.1 hx ow).trans fL)
  | false =>
   rw[if_neg (by refine ae ow ?_;decide)]at q;refine aB q λIL uh=>?_;have e1:=o.2 _ _ uh;rw[fL]at e1;obtain rfl:=Option.some.inj e1;exact o'.2 _ _ (yx uh)
 ·refine St.cK λc hc=>?_;have:=o'.4 _ c hc;rw[gM f.3,lL]at this;injection this
 ·have q:=f.5 x c e;cases ow:own with
  | true =>
   rw[if_pos ow]at q;refine ae (if_pos rfl) ?_;refine⟨q.1,St.cK λcc hc=>?_,q.2.2⟩;have h1:=o'.4 _ cc hc;rw[qN q.1 e ow]at h1;refine zV (f.2 x c (f.7 ow x c e)) λZZ CZ ZZ=>?_;obtain⟨oc,fL,_⟩:=CZ;rw[fL]at h1;injection h1
  | false =>
   rw[if_neg (by refine ae ow ?_;decide)]at q;refine ae (if_neg (by decide)) ?_;exact q
theorem ao(h:V B A S t (λa S'=>Q a vs S')):W B A own env vs S t Q:=λX s o f =>
 wpAny_mono (h _ s (o.around f)) (λa s' zp=>by obtain⟨S',o',q⟩:=zp;exact⟨vs,S',o'.dJ o,f.back o o',q⟩) λZZ ZZ e=>e
noncomputable def St.le(S S':St):Prop:=∀r,(S.get r).le (S'.get r)
theorem St.le_refl(S:St):S.le S:=λr=>Mp.le_refl _
theorem St.le_trans(h:S.le S')(h':S'.le bg):S.le bg:=λr=>Mp.le_trans (h r) (h' r)
theorem St.le.has{S S':St}(h:S.le S'){a:Addr}{c:jn}(q:S.has a c):S'.has a c:=by refine aB q λr q=>?_;exact⟨r,h r _ _ q⟩
theorem Mp.le.none{m m':Mp}(h:m.le m'){a:Addr}(q:m' a=Option.none):m a=Option.none:=by
 cases e:m a with
 | none=>rfl
 | some c=>rw[h _ _ e]at q;injection q
theorem St.le.no{S S':St}(h:S.le S'){a:Addr}(q:S'.no a):S.no a:=λr=>Mp.le.none (h r) (q r)
theorem St.le.one{S S':St}(h:S.le S'){a:Addr}(q:S'.One a):S.One a:=λr r' c c' e e'=>q r r' c c' (h r _ _ e) (h r' _ _ e')
theorem St.lM{k k' b b' u u' l l' h h' v v' p p' m m':Mp}(e1:k.le k')(e2:b.le b')(e3:u.le u')(e4:l.le l')(e5:h.le h')(e6:v.le v')(e7:p.le p')(e8:m.le m'):St.le ⟨k,b,u,l,h,v,p,m⟩ ⟨k',b',u',l',h',v',p',m'⟩:=λr=>by
 cases r <;> assumption
theorem Ok.weaken(o:Ok B S' X s)(h:S.le S'):Ok B S X s :=
 ⟨o.1,o.2,λa c q=>o.3 a c (h.has q),λa c q=>o.4 a c (h.has q),λa=>h.one (o.5 a),λa c q=>o.6 a c (h.has q),o.7,o.8⟩
theorem zA.weaken(o:zA own env vs S' X s)(h:S.le S'):zA own env vs S X s :=
 ⟨o.1,o.2,o.3,h.no o.4,λx c e=>by
  have:=o.5 x c e;split
  ·rename_i q;rw[if_pos q]at this;exact⟨this.1,h.no this.2.1,this.2.2⟩
  ·rename_i q;rw[if_neg q]at this;exact this,o.6,o.7⟩
theorem zA.mono(f:zA own env vs S X s)(h:∀x v,zo vs' x=some v->zo vs x=some v):zA own env vs' S X s:=by
 refine zt f.1 λm hn hm=>?_;exact⟨⟨m,hn,λx v hk hv=>hm x v hk (h x v hv)⟩,λx c e=>by refine zt (f.2 x c e) λv₀ a b=>?_;exact⟨v₀,a,λv hv=>b v (h x v hv)⟩,f.3,f.4,f.5,f.6,f.7⟩
noncomputable def En(env:Env)(sc:Scope):Prop:=A6
 (env.scope=sc)
 (sc.kind = .function)
 (env.globals=mainGlobals)
 (env.builtins=builtinsNs)
 (∀x,sc.names.lookup x=some .cell->∃c,env.cells.lookup x=some c)
 (∀x c,env.cells.lookup x=some c->sc.names.lookup x≠some .local)
theorem En.kindOf(e:En env sc)(x:Str):env.kindOf x=sc.names.lookup x:=by unfold Env.kindOf;refine ae e.1 ?_;rfl
theorem En.fn(e:En env sc):env.scope.kind = .function:=ae e.1 e.2
noncomputable def ym:Option NameKind->Bool
 | some .local=>true
 | some .cell=>true
 | _=>false
theorem VQ(en:En env sc)(hk:ym (sc.names.lookup x)=true)(hv:zo vs x=some v)(h:Q v vs S):
  W B A own env vs S (loadName env x) Q:=λX s o f=>by
 cases e:sc.names.lookup x with
 | none=>rw[e]at hk;injection hk
 | some kd =>
  rw[e]at hk;cases kd <;> first | cases hk | skip
  ·refine zt f.1 λm hn hm=>?_;have hl:=(en.kindOf x).trans e;exact wpAny_loadName_local en.fn hl hn (hm x v hl hv) ⟨vs,S,o,f,h⟩
  ·refine aB (en.5 x e) λc hc=>?_;refine zt (f.2 x c hc) λv₀ bI cg=>?_;obtain rfl:=cg v hv;exact wpAny_loadName_cell en.fn ((en.kindOf x).trans e) hc bI ⟨vs,S,o,f,h⟩
theorem Zq(en:En env sc)(hk:ym (sc.names.lookup x)=true)(hv:zo vs x=some v)(h:Q v vs S)(hd:(x == ("__debug__":Str))=false:=by decide):W B A own env vs S (eval (.Name x pos) env) Q:=λX s o f=>wpAny_Name (VQ en hk hv h X s o f) hd
theorem wq(en:En env sc)(hk:sc.names.lookup x=some .globalImplicit)(hv:nsIn B.K mainGlobals x=some (some v))(h:Q v vs S)(hd:(x == ("__debug__":Str))=false:=by decide):W B A own env vs S (eval (.Name x pos) env) Q:=λX s o f=>by
 refine Name_function_global en.fn ((en.kindOf x).trans hk) (loadGlobal_global (mg:=B.mg) ?_ (mg_of B.X B.g hv) ⟨vs,S,o,f,h⟩) hd;exact ae en.3 (B.g.keeps o.keep)
theorem jQ(en:En env sc)(hk:sc.names.lookup x=some .globalImplicit)(hv:nsIn B.K mainGlobals x=some none)(hb:bootBuiltins x=some v)(hn:x≠"__name__")(h:Q v vs S)(hd:(x == ("__debug__":Str))=false:=by decide):W B A own env vs S (eval (.Name x pos) env) Q:=λX s o f=>by
 refine Name_function_global en.fn ((en.kindOf x).trans hk) (loadGlobal_builtin (mg:=B.mg) (mb:=B.mb) ?_ (mg_none_of B.X B.g hv) ?_ ((B.blt x hn).trans hb) ⟨vs,S,o,f,h⟩) hd
 ·exact ae en.3 (B.g.keeps o.keep)
 ·exact ae en.4 (B.b.keeps o.keep)
end
end
section
set_option genSizeOf false
set_option genInjectivity false
open PySem PySem.W PySem.Calls PyProof.Rows
section
variable {α β:Type} {B:Bs} {A:Around} {own:Bool} {env:Env} {vs:Vs} {S:St}
noncomputable abbrev Po{α:Type}(B:Bs)(own:Bool)(env:Env)(X:Addr->Option Obj)(Q:α->Vs->St->Prop):α->Shared->Prop:=λa=>Pw B own env X (Q a)
theorem W.un{m:Sem α}{f:α->Sem β}{Q:β->Vs->St->Prop}(h:W B A own env vs S m (λa vs' S'=>W B A own env vs' S' (f a) Q)){X:Addr->Option Obj}{s:Shared}(o:Ok B S X s)(fr:zA own env vs S X s):
  wpAny (model B.prog B.w) A m (λa s'=>wpAny (model B.prog B.w) A (f a) (Po B own env X Q) cf s') cf s :=
 wpAny_mono (h X s o fr) (λ_ s' zp=>by obtain⟨_,_,o',f',q⟩:=zp;exact q X s' o' f') λZZ ZZ e=>e
theorem GC{i k pos}(h:∀t,Q (.int i t) vs S):W B A own env vs S (eval (.Constant (.int i) k pos) env) Q:=λX s o f =>
 wpAny_Constant_int ⟨vs,S,o.toks _,f.toks _,h _⟩
theorem GD{x k pos}(h:∀t,Q (.str x t) vs S):W B A own env vs S (eval (.Constant (.str x) k pos) env) Q:=λX s o f =>
 Constant_str ⟨vs,S,o.toks _,f.toks _,h _⟩
theorem XF{k pos}(h:Q .none vs S):W B A own env vs S (eval (.Constant .none k pos) env) Q:=λX s o f =>
 wpAny_Constant_none ⟨vs,S,o,f,h⟩
theorem XG{b k pos}(h:Q (.bool b) vs S):W B A own env vs S (eval (.Constant (.bool b) k pos) env) Q:=λX s o f =>
 wpAny_Constant_bool ⟨vs,S,o,f,h⟩
theorem VR{l op r pos}{Q:Value->Vs->St->Prop}(h:W B A own env vs S (eval l env) (λa vs S=>W B A own env vs S (eval r env) (λb vs S=>W B A own env vs S (binaryOp op a b) Q))):
  W B A own env vs S (eval (.BinOp l op r pos) env) Q:=λX s o f =>
 wpAny_BinOp (wpAny_mono (h X s o f) (λa s1 zp=>by obtain⟨_,_,o1,f1,h1⟩:=zp;exact h1.un o1 f1) λZZ ZZ e=>e)
theorem VS{l op r pos}{Q:Value->Vs->St->Prop}(h:W B A own env vs S (eval l env) (λa vs S=>W B A own env vs S (eval r env) (λb vs S=>W B A own env vs S (compareOp op a b) Q)))(hm:behindInMarks op r=false:=by with_unfolding_all rfl):W B A own env vs S (eval (.Compare l [op] [r] pos) env) Q:=λX s o f =>
 wpAny_Compare1 (wpAny_mono (h X s o f) (λa s1 zp=>by obtain⟨_,_,o1,f1,h1⟩:=zp;exact h1.un o1 f1) λZZ ZZ e=>e) hm
theorem wr{l op r pos whole}{Q:Bool->Vs->St->Prop}(h:W B A own env vs S (eval l env) (λa vs S=>W B A own env vs S (eval r env) (λb vs S=>W B A own env vs S (compareOp op a b) (λc vs S=>W B A own env vs S (truthy c) Q))))(hm:behindInMarks op r=false:=by with_unfolding_all rfl):W B A own env vs S (isTrue (.Compare l [op] [r] pos) env whole) Q:=λX s o f =>
 wpAny_isTrue_Compare1 (wpAny_mono (h X s o f) (λa s1 zp=>by obtain⟨_,_,o1,f1,h1⟩:=zp;exact wpAny_mono (h1 X s1 o1 f1) (λb s2 zp=>by obtain⟨_,_,o2,f2,h2⟩:=zp;exact h2.un o2 f2) λZZ ZZ e=>e) λZZ ZZ e=>e) hm
theorem zc(h:Q b vs S):W B A own env vs S (truthy (.bool b)) Q:=λX s o f=>wpAny_truthy_bool ⟨vs,S,o,f,h⟩
theorem xj{x pos whole}(h:W B A own env vs S (isTrue x env (eval x env)) (λb=>Q (!b))):W B A own env vs S (isTrue (.UnaryOp .Not x pos) env whole) Q:=λX s o f =>
 wpAny_isTrue_Not (wpAny_mono (h X s o f) (λb s1 q=>q) λZZ ZZ e=>e)
theorem wu{t b e pos}(h:W B A own env vs S (isTrue t env (eval t env)) (λc vs S=>if c then W B A own env vs S (eval b env) Q else W B A own env vs S (eval e env) Q)):
  W B A own env vs S (eval (.IfExp t b e pos) env) Q:=λX s o f =>
 wpAny_IfExp (wpAny_mono (h X s o f) (λc s1 zp=>by obtain⟨_,_,o1,f1,h1⟩:=zp;cases c <;> exact h1 X s1 o1 f1) λZZ ZZ e=>e)
@[reducible] noncomputable def xD(B:Bs)(A:Around)(own:Bool)(env:Env):List Expr->Vs->St->(List Value->Vs->St->Prop)->Prop
 | [],vs,S,Q=>Q [] vs S
 | e::r,vs,S,Q=>W B A own env vs S (eval e env) (λv vs S=>xD B A own env r vs S (λl=>Q (v::l)))
noncomputable def qc:List Expr->Bool
 | []=>true
 | .Starred _ _::_=>false
 | _::r=>qc r
theorem y6(h:qc (e::r)=true):starEach (e::r) env=(false,eval e env)::starEach r env/\qc r=true:=by
 cases e <;> first | exact⟨rfl,h⟩ | injection h
theorem xk:∀{es:List Expr},qc es=true->(backTo pos (starEach es env)).any (·.1)=false
 | [],_=>rfl
 | e::r,h=>by
  refine ae ((y6 (env:=env) h).1) ?_;refine(?_:(false||(backTo pos (starEach r env)).any (·.1))=false);exact ae (xk (y6 (env:=env) h).2) rfl
theorem Zr:∀{es:List Expr} {vs:Vs} {S:St} {Q:List Value->Vs->St->Prop},qc es=true->xD B A own env es vs S Q->W B A own env vs S (spliced (backTo pos (starEach es env))) Q:=by
 intro zl;induction zl with
 | nil =>
  intro vs S Q _ h;exact λX s o f=>spliced_nil ⟨vs,S,o,f,h⟩
 | cons e r ih =>
  intro vs S Q hn h;refine λX s o f=>?_;refine ae ((y6 hn).1) ?_;exact spliced_cons (wpAny_mono (h X s o f) (λv s1 zp=>by obtain⟨_,_,o1,f1,h1⟩:=zp;exact ih (y6 (env:=env) hn).2 h1 X s1 o1 f1) λZZ ZZ e=>e)
theorem xl(hn:qc es=true)(h:xD B A own env es vs S (λl=>Q ⟨l,[]⟩)):
  W B A own env vs S (evalArgs fv true (backTo pos (starEach es env)) []) Q:=λX s o f=>by
 cases es with
 | nil=>exact PyProof.Rows.evalArgs_none ⟨vs,S,o,f,h⟩
 | cons e r =>
  have' q:_:=Zr (pos:=pos) hn h X s o f;rw[(y6 hn).1]at q |-;exact evalArgs_plain q
theorem qx{id:String}(h:xD B A own env es vs S (λl vs S=>W B A own env vs S (call (.builtin id) (first++l)) Q))(hn:qc es=true:=by rfl):
  W B A own env vs S (callWith pos (.builtin id) first (backTo pos (starEach es env)) []) Q:=λX s o f =>
 callWith_builtin (xk hn) (wpAny_mono (xl (fv:=.builtin id) hn (Q:=λa vs S=>W B A own env vs S (call (.builtin id) (first++a.pos) a.kw) Q) h X s o f) (λa s1 zp=>by obtain⟨_,_,o1,f1,h1⟩:=zp;exact h1 X s1 o1 f1) λZZ ZZ e=>e)
theorem Jc(h:xD B A own env es vs S (λl vs S=>W B A own env vs S (call (.type T) (first++l)) Q))(hn:qc es=true:=by rfl):
  W B A own env vs S (callWith pos (.type T) first (backTo pos (starEach es env)) []) Q:=λX s o f =>
 PyProof.Rows.callWith_type (xk hn) (wpAny_mono (xl (fv:=.type T) hn (Q:=λa vs S=>W B A own env vs S (call (.type T) (first++a.pos) a.kw) Q) h X s o f) (λa s1 zp=>by obtain⟨_,_,o1,f1,h1⟩:=zp;exact h1 X s1 o1 f1) λZZ ZZ e=>e)
theorem yE(hk:keepIn B.K fv=true)(h:xD B A own env es vs S (λl vs S=>W B A own env vs S (call fv (first++l)) Q))(hn:qc es=true:=by rfl):
  W B A own env vs S (callWith pos fv first (backTo pos (starEach es env)) []) Q:=λX s o f =>
 callWith_of (P:=λh=>B.K.In h) (ae (xk hn) rfl) (keeps_K hk)
  (wpAny_mono (xl (fv:=fv) hn (Q:=λa vs S=>W B A own env vs S (call fv (first++a.pos) a.kw) Q) h X s o f) (λa s1 zp=>by obtain⟨_,_,o1,f1,h1⟩:=zp;exact⟨o1.fE,h1 X s1 o1 f1⟩) λZZ ZZ e=>e)
theorem Qf(hd:ob.data = .func fd)(h:xD B A own env es vs S (λl vs S=>S.has a (.is ob)/\W B A own env vs S (call (.ref a) (first++l)) Q))(hn:qc es=true:=by rfl):
  W B A own env vs S (callWith pos (.ref a) first (backTo pos (starEach es env)) []) Q:=λX s o f =>
 callWith_function (o:=ob) (fd:=fd)
  (wpAny_mono (xl (fv:=.ref a) hn (Q:=λx vs S=>S.has a (.is ob)/\W B A own env vs S (call (.ref a) (first++x.pos) x.kw) Q) h X s o f)
   (λx s1 zp=>by obtain⟨_,_,o1,f1,ha,h1⟩:=zp;exact⟨⟨by refine zt (o1.3 _ _ ha) λo' e q=>?_;obtain⟨rfl,_⟩:=q;exact e,hd⟩,h1 X s1 o1 f1⟩) λZZ ZZ e=>e)
theorem IM{func:Expr}{args:List Expr}{pos:Pos}{Q:Value->Vs->St->Prop}(h:W B A own env vs S (eval func env) (λfv vs S=>W B A own env vs S (callWith pos fv [] (backTo pos (starEach args env)) []) Q))(he:eval (.Call func args [] pos) env=(do callWith pos (<-eval func env) [] (backTo pos (starEach args env)) (backToKw pos (keywordEach [] env))):=by rfl):W B A own env vs S (eval (.Call func args [] pos) env) Q:=λX s o f =>
 Call_ (h.un o f) he
theorem VU{name:Str}(h:W B A own env vs S (eval ob env) (λov vs S=>W B A own env vs S (getMethod ov name pl) (λfx vs S=>W B A own env vs S (callWith pos fx.1 fx.2 (backTo pos (starEach args env)) []) Q)))(he:eval (.Call (.Attribute ob name apos) args [] pos) env=(do
   let ov <-eval ob env
   standAt apos.atName
   let(f,first) <-holding [ov] (getMethod ov name pl)
   callWith pos f first (backTo pos (starEach args env)) []):=by rfl):W B A own env vs S (eval (.Call (.Attribute ob name apos) args [] pos) env) Q:=λX s o f =>
 MethodCall_ (pl:=pl) (wpAny_mono (h X s o f) (λa s1 zp=>by obtain⟨_,_,o1,f1,h1⟩:=zp;exact h1.un o1 f1) λZZ ZZ e=>e) he
theorem VW{attr:Str}(h:W B A own env vs S (eval value env) (λov vs S=>W B A own env vs S (getAttr ov attr true) Q))(he:eval (.Attribute value attr pos) env=(do
   let o <-eval value env
   standAt pos.atName
   let r <-holding [o] (getAttr o attr true)
   letTemporaryGo value o r
   pure r):=by with_unfolding_all rfl):W B A own env vs S (eval (.Attribute value attr pos) env) Q:=λX s o f=>Attribute_any_ (h.un o f) he
theorem GE{value slice pos}{Q:Value->Vs->St->Prop}(h:W B A own env vs S (eval value env) (λov vs S=>W B A own env vs S (eval slice env) (λi vs S=>W B A own env vs S (subscriptTail value slice ov i) Q))):
  W B A own env vs S (eval (.Subscript value slice pos) env) Q:=λX s o f=>Subscript_ (wpAny_mono (h X s o f) (λa s1 zp=>by obtain⟨_,_,o1,f1,h1⟩:=zp;exact h1.un o1 f1) λZZ ZZ e=>e)
theorem zN{k:Nat}(h:xD B A own env es vs S (λl vs S=>W B A own env vs S (newTuple l) Q))(hn:qc es=true:=by rfl):
  W B A own env vs S (eval (.Tuple es k pos) env) Q:=λX s o f=>PyProof.Rows.Tuple_ ((Zr hn h).un o f)
theorem jM{es:List Expr}{pos:Pos}{Q:Value->Vs->St->Prop}(h:xD B A own env es vs S (λl vs S=>W B A own env vs S (newList l) Q))(hn:qc es=true:=by rfl):
  W B A own env vs S (eval (.List es pos) env) Q:=λX s o f=>PyProof.Rows.List_ ((Zr hn h).un o f)
/-! statements -/
theorem ZT(h:Q .next vs S):W B A own env vs S (execs [] env) Q:=λX s o f=>wpAny_execs_nil ⟨vs,S,o,f,h⟩
theorem yf{st:Stmt}{rest:List Stmt}(h:W B A own env vs S (exec st env) (λfl vs S=>match fl with | .next=>W B A own env vs S (execs rest env) Q | f=>Q f vs S)):
  W B A own env vs S (execs (st::rest) env) Q:=λX s o f=>wpAny_execs_cons (wpAny_mono (h X s o f) (λfl s1 VX=>by
   obtain⟨IP,S1,o1,f1,h1⟩:=VX;cases fl
   ·exact h1 X s1 o1 f1
   all_goals exact⟨IP,S1,o1,f1,h1⟩) λZZ ZZ e=>e)
theorem GF{e pos}(h:W B A own env vs S (eval e env) (λv=>Q (.ret v))):W B A own env vs S (exec (.Return (some e) pos) env) Q:=λX s o f=>wpAny_Return_some (h X s o f)
theorem VY{test body orelse pos}(h:W B A own env vs S (isTrue test env (eval test env)) (λb vs S=>if b then W B A own env vs S (execs body env) Q else W B A own env vs S (execs orelse env) Q)):
  W B A own env vs S (exec (.If test body orelse pos) env) Q:=λX s o f=>wpAny_If (wpAny_mono (h X s o f) (λb s1 VZ=>by
   obtain⟨_,_,o1,f1,h1⟩:=VZ;cases b <;> exact h1 X s1 o1 f1) λZZ ZZ e=>e)
theorem zA.lN{X:Addr->Option Obj}{s:Shared}{sc:Scope}{x:Str}{v:Value}{h':Heap}{m:Str->Option Value}(en:En env sc)(o:Ok B S X s)(f:zA own env vs S X s)(hm:∀y v,env.kindOf y=some .local->zo vs y=some v->m y=some v)(hl:env.kindOf x=some .local)(hn:h'.Ns env.locals (λy=>if y=x then some v else m y))(hs:Heap.SameBut env.locals s.heap h')(t:Nat):
  Ok B S X { s with heap:=h',toks:=t }/\zA own env (zi vs x v) S X { s with heap:=h',toks:=t }:=by
 have' lO:∀a ob,X a=some ob->h'.get? a=some ob:=λa ob q=>(hs.2 a (λe=>by rw[e,f.3]at q;injection q)).trans (o.2 a ob q);refine⟨⟨o.1,lO,λa c q=>?_,o.4,o.5,o.6,o.7,o.8⟩,⟨⟨_,hn,λy u hy hu=>?_⟩,λy c e=>?_,f.3,f.4,f.5,f.6,f.7⟩⟩
 ·refine zt (o.3 a c q) λob e q'=>?_;exact⟨ob,(hs.2 a (λe'=>St.bu f.4 (e'▸q))).trans e,q'⟩
 ·rw[zw]at hu;split
  ·rename_i e;rw[if_pos e]at hu;exact hu
  ·rename_i e;rw[if_neg e]at hu;exact hm y u hy hu
 ·have' V0:y≠x:=λe'=>en.6 y c e (ae e' (aR (en.kindOf x) hl));rewrite [zw];refine ae (if_neg V0) ?_;refine zt (f.2 y c e) λv₀ bI cg=>?_;refine⟨v₀,bI.sameBut hs λe'=>?_,cg⟩;have q:=f.5 y c (mem_of_lookup e);cases ow:own with
  | true=>rw[if_pos ow]at q;exact q.2.2 e'
  | false =>
   rw[if_neg (by refine ae ow ?_;decide)]at q;refine aB q λoc fL=>?_;rw[e',f.3]at fL;injection fL
theorem zA.iw(en:En env sc)(o:Ok B S X s)(f:zA true env vs S X s)(hl:env.kindOf x=some .cell)(hc:env.cells.lookup x=some c)(hv:h'.IsCell c (some v))(hs:Heap.SameBut c s.heap h')(t:Nat):
  Ok B S X { s with heap:=h',toks:=t }/\zA true env (zi vs x v) S X { s with heap:=h',toks:=t }:=by
 have q0:=f.5 x c (mem_of_lookup hc);rw[if_pos rfl]at q0;have' lO:∀a ob,X a=some ob->h'.get? a=some ob:=λa ob q=>(hs.2 a (λe=>by rw[e,q0.1]at q;injection q)).trans (o.2 a ob q);refine zt f.1 λm hn hm=>?_;refine⟨⟨o.1,lO,λa c' q=>?_,o.4,o.5,o.6,o.7,o.8⟩,⟨⟨m,hn.sameBut hs (Ne.symm q0.2.2),λy u hy hu=>?_⟩,λy c' e=>?_,f.3,f.4,f.5,f.6,f.7⟩⟩
 ·refine zt (o.3 a c' q) λob e q'=>?_;exact⟨ob,(hs.2 a (λe'=>St.bu q0.2.1 (e'▸q))).trans e,q'⟩
 ·rw[zw,if_neg (λe=>by rw[e,hl]at hy;injection hy with zz1;injection zz1)]at hu;exact hm y u hy hu
 ·rw[zw];by_cases hy:y=x
  ·subst hy;rw[hc]at e;obtain rfl:=Option.some.inj e;exact ae (if_pos rfl) ⟨_,hv,λZZ q=>q⟩
  ·refine ae (if_neg hy) ?_;refine zt (f.2 y c' e) λv₀ bI cg=>?_;refine⟨v₀,bI.sameBut hs λe'=>hy ?_,cg⟩;subst e';exact name_of_addr (f.6 rfl) (mem_of_lookup e) (mem_of_lookup hc)
theorem xN(en:En env sc)(hk:ym (sc.names.lookup x)=true)(ho:own=true\/sc.names.lookup x=some .local)(h:Q () (zi vs x v) S):
  W B A own env vs S (storeName env x v) Q:=λX s o f=>by
 cases e:sc.names.lookup x with
 | none=>rw[e]at hk;injection hk
 | some kd =>
  rw[e]at hk;have hl:=(en.kindOf x).trans e;cases kd <;> first | cases hk | skip
  ·refine zt f.1 λm hn hm=>?_;refine wpAny_storeName_local hl hn (λh' oW hs=>?_) (ae en.fn rfl);refine bE (f.lN en o hm hl oW hs (s.toks+1)) λa b=>?_;exact⟨_,S,a,b,h⟩
  ·refine aB (en.5 x e) λc hc=>?_;cases ow:own with
   | false =>
    rcases ho with q | q
    ·rw[ow]at q;injection q
    ·rw[e]at q;injection q with zz1;injection zz1
   | true =>
    subst ow;refine zt (f.2 x c hc) λv₀ bI cg=>?_;refine wpAny_storeName_cell en.fn hl hc bI λh' hv hs=>?_;refine bE (f.iw en o hl hc hv hs s.toks) λa b=>?_;exact⟨_,S,a,b,h⟩
theorem z8(en:En env sc)(hk:ym (sc.names.lookup x)=true)(ho:own=true\/sc.names.lookup x=some .local)(h:Q () (zi vs x v) S):
  W B A own env vs S (assign (.Name x pos) env v) Q:=λX s o f=>wpAny_assign_Name (xN en hk ho h X s o f)
theorem qS{x pos' value pos}(en:En env sc)(hk:ym (sc.names.lookup x)=true)(h:W B A true env vs S (eval value env) (λv vs S=>Q .next (zi vs x v) S))(hs:swapsWith value (some (.Name x pos')) pos.line env=pure false:=by rfl):W B A true env vs S (exec (.Assign [.Name x pos'] value pos) env) Q:=λX s o f =>
 wpAny_Assign_Name (wpAny_mono (h X s o f) (λv s1 zp=>by obtain⟨_,_,o1,f1,h1⟩:=zp;exact xN (Q:=λZZ=>Q .next) en hk (.inl rfl) h1 X s1 o1 f1) λZZ ZZ e=>e) hs
theorem zj{ob attr pos' value pos}{Q:Flow->Vs->St->Prop}(h:W B A own env vs S (eval value env) (λv vs S=>W B A own env vs S (eval ob env) (λov vs S=>W B A own env vs S (setAttr ov attr v) (λZZ=>Q .next))))(hs:swapsWith value (some (.Attribute ob attr pos')) pos.line env=pure false:=by rfl):W B A own env vs S (exec (.Assign [.Attribute ob attr pos'] value pos) env) Q:=λX s o f =>
 plainObj_wpAny_Assign_Attribute (wpAny_mono (h X s o f) (λv s1 zp=>by obtain⟨_,_,o1,f1,h1⟩:=zp;exact h1.un o1 f1) λZZ ZZ e=>e) hs
theorem jK{ob i pos' value pos}{Q:Flow->Vs->St->Prop}(h:W B A own env vs S (eval value env) (λv vs S=>W B A own env vs S (eval ob env) (λov vs S=>W B A own env vs S (eval i env) (λiv vs S=>W B A own env vs S (setItem ov iv v) (λZZ=>Q .next)))))(hs:swapsWith value (some (.Subscript ob i pos')) pos.line env=pure false:=by rfl):W B A own env vs S (exec (.Assign [.Subscript ob i pos'] value pos) env) Q:=λX s o f =>
 wpAny_Assign_Subscript (wpAny_mono (h X s o f) (λv s1 zp=>by obtain⟨_,_,o1,f1,h1⟩:=zp;exact wpAny_mono (h1 X s1 o1 f1) (λov s2 zp=>by obtain⟨_,_,o2,f2,h2⟩:=zp;exact h2.un o2 f2) λZZ ZZ e=>e) λZZ ZZ e=>e) hs
end
end
section
set_option genSizeOf false
set_option genInjectivity false
open PySem PySem.W PySem.Calls PyProof.Rows
theorem j9.noRef:∀{es:List DictEntry} {kvs:Vs},j9 es kvs->es.any (·.refKey)=false
 | [],[],_=>rfl
 | [],_::_,h=>h.elim
 | _::_,[],h=>h.elim
 | e::es,kv::r,⟨⟨t,hk⟩,_,h⟩=>by
  refine ae List.any_cons ?_;refine ae (j9.noRef h) ?_;rw[Bool.or_false];unfold DictEntry.refKey;refine ae hk ?_;rfl
theorem j9.getL:∀{es:List DictEntry} {kvs:Vs} (h:j9 es kvs) (x:Str),PySem.W.getL x es=some (zo kvs x):=by
 intro es kvs h x;have key:(es.find? (·.key.isStr x)).map (·.val)=zo kvs x:=by
  induction es generalizing kvs with
  | nil=>cases kvs with | nil=>rfl | cons _ _=>exact h.elim
  | cons e es ih =>
   cases kvs with
   | nil=>exact h.elim
   | cons kv r =>
    obtain⟨⟨t,hk⟩,hv,h⟩:=h;obtain⟨y,u⟩:=kv;dsimp only at hk hv;unfold zo at ih |-;refine ae List.find?_cons ?_;refine ae Lc ?_;have q:e.key.isStr x=(y == x):=by refine ae hk ?_;rfl
    by_cases hx:y=x
    ·subst hx;have' q':e.key.isStr y=true:=by refine ae q ?_;exact if_pos rfl
     refine ae q' ?_;simp[hv]
    ·have' q':e.key.isStr x=false:=by refine ae q ?_;simpa using hx
     have' q2:(x == y)=false:=by simpa using λe=>hx e.symm
     refine ae q' ?_;refine ae q2 ?_;exact ih h
 unfold PySem.W.getL;cases q:es.find? (·.key.isStr x) with
 | some e=>rw[q]at key;refine aR key ?_;rfl
 | none =>
  rw[q]at key;exact ae h.noRef (aR key rfl)
theorem j9.putL:∀{es:List DictEntry} {kvs:Vs},j9 es kvs->∀(x:Str) (Bj:Int) (t:Tok) (v:Value),j9 (PySem.W.putL x Bj (.str x t) v es) (zi kvs x v)
 | [],[],_,x,Bj,t,v=>⟨⟨t,rfl⟩,rfl,trivial⟩
 | [],_::_,h,_,_,_,_=>h.elim
 | _::_,[],h,_,_,_,_=>h.elim
 | e::es,(y,u)::r,⟨⟨t',hk⟩,hv,h⟩,x,Bj,t,v=>by
  unfold PySem.W.putL zi;have q:e.key.isStr x=(y == x):=ae hk rfl;by_cases hx:y=x
  ·subst hx;refine ae (if_pos (by refine ae q ?_;exact if_pos rfl)) ?_;refine ae (if_pos rfl) ?_;exact⟨⟨t',hk⟩,rfl,h⟩
  ·refine ae (if_neg (by refine ae q ?_;simpa using hx)) ?_;refine ae (if_neg hx) ?_;exact⟨⟨t',hk⟩,hv,j9.putL h x Bj t v⟩
theorem j9.length:∀{es:List DictEntry} {kvs:Vs},j9 es kvs->es.length=kvs.length
 | [],[],_=>rfl
 | [],_::_,h=>h.elim
 | _::_,[],h=>h.elim
 | _::_,_::_,⟨_,_,h⟩=>ae Lj (ae Lj (ae (j9.length h) rfl))
section
variable {α β:Type} {B:Bs} {A:Around} {own:Bool} {env:Env} {vs:Vs} {S:St}
theorem St.az(h:S.get r a=some c):S.has a c:=⟨r,h⟩
theorem gk{S:St}{a:Addr}{c:jn}(h:S.k a=some c):S.has a c:=⟨.k,h⟩
theorem gb{S:St}{a:Addr}{c:jn}(h:S.b a=some c):S.has a c:=⟨.b,h⟩
theorem gu{S:St}{a:Addr}{c:jn}(h:S.u a=some c):S.has a c:=⟨.u,h⟩
theorem gl{S:St}{a:Addr}{c:jn}(h:S.l a=some c):S.has a c:=⟨.l,h⟩
theorem gh{S:St}{a:Addr}{c:jn}(h:S.h a=some c):S.has a c:=⟨.h,h⟩
theorem ui{S:St}{a:Addr}{c:jn}(h:S.v a=some c):S.has a c:=⟨.v,h⟩
theorem kY{S:St}{a:Addr}{c:jn}(h:S.p a=some c):S.has a c:=⟨.p,h⟩
theorem kZ{S:St}{a:Addr}{c:jn}(h:S.m a=some c):S.has a c:=⟨.m,h⟩
theorem St.bQ(q:(S.put r d c').get r' a=some c):(r'=r/\a=d/\c=c')\/S.get r' a=some c:=by
 by_cases e:r'=r
 ·subst e;unfold St.put at q;rw[St.bk]at q;unfold upd at q;split at q
  ·rename_i e;obtain rfl:=Option.some.inj q;exact .inl ⟨rfl,e,rfl⟩
  ·exact .inr q
 ·unfold St.put at q;rw[St.b8 _ _ e]at q;exact .inr q
theorem St.dG{r:Rg}{d:Addr}{c₀ c':jn}(h:S.get r d=some c₀)(o:S.One d){a:Addr}{c:jn}(q:(S.put r d c').has a c):(a=d/\c=c')\/(a≠d/\S.has a c):=by
 refine aB q λr' q=>?_;by_cases e:a=d
 ·subst e;left;refine⟨rfl,?_⟩;rcases St.bQ q with ⟨_,_,e⟩ | q'
  ·exact e
  ·obtain rfl:=o _ _ _ _ q' h;unfold St.put at q;rw[St.bk,za]at q;obtain rfl:=Option.some.inj q;rfl
 ·right;rcases St.bQ q with ⟨_,e',_⟩ | q'
  ·exact absurd e' e
  ·exact⟨e,r',q'⟩
theorem St.nU(h:S.get r d=some c₀)(o:∀a,S.One a)(a:Addr):(S.put r d c').One a:=by
 intro r1 r2 c1 c2 q1 q2;rcases St.bQ q1 with ⟨e1,e2,_⟩ | tv <;> rcases St.bQ q2 with ⟨e3,e4,_⟩ | tA
 ·exact ae e1 (ae e3 rfl)
 ·subst e2;refine ae e1 ?_;exact o _ _ _ _ _ h tA
 ·subst e4;refine ae e3 ?_;exact o _ _ _ _ _ tv h
 ·exact o _ _ _ _ _ tv tA
theorem Ok.put(o:Ok B S X s)(hr:S.get r d=some c)(hs:Heap.SameBut d s.heap h')(hc:∃ob,h'.get? d=some ob/\c'.Fits ob)(t:Nat):
  Ok B (S.put r d c') X { s with heap:=h',toks:=t }:=by
 have hX:=o.4 d c (St.az hr);refine⟨o.1,λa ob q=>(hs.2 a (λe=>by rw[e,hX]at q;injection q)).trans (o.2 a ob q),λa c₁ q=>?_,λa c₁ q=>?_,St.nU hr o.5,λa c₁ q=>?_,o.7,o.8⟩
 ·rcases St.dG hr (o.5 d) q with ⟨rfl,rfl⟩ | ⟨e,q⟩
  ·exact hc
  ·refine zt (o.3 a c₁ q) λob e1 e2=>?_;exact⟨ob,(hs.2 a e).trans e1,e2⟩
 ·rcases St.dG hr (o.5 d) q with ⟨rfl,rfl⟩ | ⟨e,q⟩
  ·exact hX
  ·exact o.4 a c₁ q
 ·rcases St.dG hr (o.5 d) q with ⟨rfl,rfl⟩ | ⟨e,q⟩
  ·exact o.6 a c (St.az hr)
  ·exact o.6 a c₁ q
theorem Q6(w:World):((hd.heap_1_39 w.params).lookup 525).isSome=true:=by kernel_rfl
theorem Ok.lt(o:Ok B S X s):S.no s.heap.objs.size/\X s.heap.objs.size=none/\s.heap.objs.size≠sysModules:=by
 refine⟨St.cK λc q=>?_,?_,?_⟩
 ·refine zV (o.3 _ c q) λob e ZZ=>?_;exact L0 _ (La e)
 ·cases q:X s.heap.objs.size with
  | none=>rfl
  | some ob=>exact absurd (La (o.2 _ _ q)) (L0 _)
 ·refine aB (M6.mp (Q6 B.w)) λob e=>?_;have' this:_:=La (o.keep 525 ob (B.X 525 ob e));have' e1:sysModules=1:=rfl;refine ae e1 ?_;exact λq=>by rw[q]at this;exact absurd this (by decide)
theorem Ok.new(o:Ok B S X s)(ha:S.no a)(hX:X a=none/\a≠sysModules)(hk:∀b ob,s.heap.get? b=some ob->b≠a->h'.get? b=some ob)(hc:∃ob,h'.get? a=some ob/\c'.Fits ob)(s':Shared)(ix:s'.heap=h')(pQ:s'.os=s.os)(hg:s'.gens=s.gens):
  Ok B (S.put r a c') X s':=by
 have C0:∀b,(S.put r a c').One b:=λb r1 r2 c1 c2 q1 q2=>by
  rcases St.bQ q1 with ⟨e1,e2,_⟩ | tv <;> rcases St.bQ q2 with ⟨e3,e4,_⟩ | tA
  ·exact ae e1 (ae e3 rfl)
  ·subst e2;rw[ha r2]at tA;injection tA
  ·subst e4;rw[ha r1]at tv;injection tv
  ·exact o.5 _ _ _ _ _ tv tA
 have pR:∀b c,(S.put r a c').has b c->(b=a/\c=c')\/(b≠a/\S.has b c):=λb c q=>by
  refine aB q λr' q=>?_;rcases St.bQ q with ⟨_,e,e'⟩ | q2
  ·exact .inl ⟨e,e'⟩
  ·refine .inr ⟨λe=>?_,r',q2⟩;subst e;rw[ha r']at q2;injection q2
 refine⟨o.1,λb ob q=>?_,λb c q=>?_,λb c q=>?_,C0,λb c q=>?_,pQ.trans o.7,hg.trans o.8⟩
 ·exact ae ix (hk b ob (o.2 b ob q) (λe=>by rw[e,hX.1]at q;injection q))
 ·refine ae ix ?_;rcases pR b c q with ⟨rfl,rfl⟩ | ⟨e,q⟩
  ·exact hc
  ·refine zt (o.3 b c q) λob e1 e2=>?_;exact⟨ob,hk b ob e1 e,e2⟩
 ·rcases pR b c q with ⟨rfl,rfl⟩ | ⟨e,q⟩
  ·exact hX.1
  ·exact o.4 b c q
 ·rcases pR b c q with ⟨rfl,rfl⟩ | ⟨e,q⟩
  ·exact hX.2
  ·exact o.6 b c q
end
end
section
set_option genSizeOf false
set_option genInjectivity false
open PySem PySem.W PySem.Calls PyProof.Rows
section
variable {α β:Type} {B:Bs} {A:Around} {own:Bool} {env:Env} {vs:Vs} {S:St}
/-! new objects -/
theorem V1(bT:l.length<=sizeLine)(h:∀a,S.no a->Q (.ref a) (S.put r a (.tup l))):V B A S (newTuple l) Q:=λX s o =>
 wpAny_newTuple ⟨_,o.new (r:=r) (c':=.tup l) o.lt.1 o.lt.2 (λb ob q e=>Ke _ q) ⟨wp l 0,Kl _ rfl,0,rfl⟩ _ rfl rfl rfl,h _ o.lt.1⟩ bT
theorem Q7(bT:l.length<=sizeLine)(h:∀a,S.no a->Q (.ref a) (S.put r a (.list l))):V B A S (newList l) Q:=λX s o =>
 wpAny_newList ⟨_,o.new (r:=r) (c':=.list l) o.lt.1 o.lt.2 (λb ob q e=>Ke _ q) ⟨ji l 0,Kl _ rfl,0,rfl⟩ _ rfl rfl rfl,h _ o.lt.1⟩ bT
noncomputable def qe(K:Frag)(C:Addr):Bool:=hasDictIn K C&&plainOver K C&&(findIn K (.ref C) "__getattribute__" == some (some (.builtin "object.__getattribute__")))&&(findIn K (.ref C) "__getattr__" == some none)&&(findIn K (.ref C) "__setattr__" == some (some (.builtin "object.__setattr__")))
theorem q9{K:Frag}{C:Addr}(h:qe K C=true):hasDictIn K C=true/\plainOver K C=true/\findIn K (.ref C) "__getattribute__"=some (some (.builtin "object.__getattribute__"))/\findIn K (.ref C) "__getattr__"=some none/\findIn K (.ref C) "__setattr__"=some (some (.builtin "object.__setattr__")):=by
 simp only[qe,Bool.and_eq_true,beq_iff_eq]at h;obtain⟨⟨⟨⟨a,b⟩,c⟩,d⟩,e⟩:=h;exact⟨a,b,c,d,e⟩
theorem Ok.inst(o:Ok B S X s)(hx:S.has x (.is (zd C d)))(hd:S.has d (.attrs kvs)):
  ∃es n,j9 es kvs/\s.heap.get? d=some (dictOf es n)/\InstAt s.heap x (zd C d) C (some (dictOf es n)):=by
 refine zV (o.3 _ _ hx) λox e1 fK=>?_;obtain⟨rfl,_⟩:=fK;refine zV (o.3 _ _ hd) λod e2 iu=>?_;obtain⟨es,n,rfl,q⟩:=iu;exact⟨es,n,q,e2,⟨e1,rfl,rfl,e2⟩⟩
theorem GG{K:Frag}{C:Addr}{cd:ClassData}{es:List DictEntry}{n:Nat}{name:Str}(hc:clsIn K C=some cd)(hh:hasDictIn K C=true)(q:j9 es kvs):PySem.W.ownOf cd (some (dictOf es n)) name=some (zo kvs name):=by
 refine zt (any_some hh) λcd' lP hd=>?_;rw[hc]at lP;obtain rfl:=Option.some.inj lP;unfold PySem.W.ownOf;refine ae (if_pos hd) ?_;exact(lookIn_dict name es n).trans (q.getL name)
noncomputable def jw(K:Frag)(C:Addr)(name:Str):Bool:=match findIn K (.ref C) name with
 | some none=>true
 | some (some a)=>(match specialIn K a "__get__" with
  | some none=>true
  | some (some _)=>takesIn K a == some false
  | none=>false)
 | none=>false
set_option tactic.hygienic true in
theorem gN{K:Frag}{C:Addr}{es:List DictEntry}{n:Nat}{name:Str}{v:Value}(hh:hasDictIn K C=true)(ho:jw K C name=true)(q:j9 es kvs)(hv:zo kvs name=some v):findObj K C (some (dictOf es n)) name=some (.value v):=by
 refine zt (any_some hh) λcd hc hd=>?_;have w:=GG (n:=n) (name:=name) hc hh q;rw[hv]at w;unfold findObj;refine ae hc ?_;rw[Option.bind_some];unfold jw at ho;split at ho
 ·rename_i e;refine ae e ?_;rw[Option.bind_some];simp[w]
 ·rename_i a e;refine ae e ?_;rw[Option.bind_some];split at ho
  ·rename_i e2;simp[e2,w]
  ·rename_i g e2;have' e3:_:=beq_iff_eq.mp ho;simp[e2,e3,w]
  ·injection ho
 ·injection ho
theorem zR(hp:qe B.K C=true)(ho:jw B.K C name=true)(hx:S.has x (.is (zd C d)))(hd:S.has d (.attrs kvs))(hv:zo kvs name=some v)(h:Q v S)(hh:handedIn v=true:=by rfl):V B A S (getAttr (.ref x) name expr) Q:=λX s o=>by
 refine Xu (q9 hp) λp1 p2 p3 p4 p5=>?_;refine jg (o.inst hx hd) λes n q e I=>?_;exact get_value o.fE I p3 (gN p1 ho q hv) hh ⟨S,o.toks _,h⟩
theorem zg(hp:qe B.K C=true)(hf:findIn B.K (.ref C) name=some (some (.ref f)))(ht:typeIn B.K (.ref f)=some (.type "function"))(hx:S.has x (.is (zd C d)))(hd:S.has d (.attrs kvs))(hv:zo kvs name=none)(h:Q (.ref f,[.ref x]) S):V B A S (getMethod (.ref x) name pl) Q:=λX s o=>by
 refine Xu (q9 hp) λp1 p2 p3 p4 p5=>?_;refine jg (o.inst hx hd) λes n q e I=>?_;refine method_fn o.fE I p3 p4 hf ht ?_ ⟨S,o,h⟩;refine(?_:(lookIn name (dictOf es n)).map (·.isSome)=some false);rewrite [lookIn_dict,q.getL];refine ae hv ?_;rfl
theorem xE{name:Str}(hp:qe B.K C=true)(ho:jw B.K C name=true)(hf:findIn B.K (.ref C) name=some (some (.ref f)))(ht:typeIn B.K (.ref f)=some (.type "function"))(hx:S.has x (.is (zd C d)))(hd:S.has d (.attrs kvs))(hv:zo kvs name=some v)(h:Q (v,[]) S)(hh:handedIn v=true:=by rfl):V B A S (getMethod (.ref x) name pl) Q:=λX s o=>by
 refine Xu (q9 hp) λp1 p2 p3 p4 p5=>?_;refine jg (o.inst hx hd) λes n q e I=>?_;have' C1:_:=PySem.F.canon_object_ga;refine wpAny_bind (wpAny_bind (I.type.here ((looks_findIn o.fE p3).here ?_)));dsimp only;refine ae C1 ?_;refine ae (if_neg (by decide)) ?_;refine wpAny_bind (wpAny_bind (I.type.here ((looks_findIn o.fE p4).here ?_)));refine wpAny_bind (wpAny_bind (I.type.here ((looks_findIn o.fE hf).here (wpAny_bind ((looks_typeIn o.fE ht).here ?_)))));refine ae (if_neg (by decide +kernel)) ?_;refine wpAny_bind (wpAny_loadPart I.at_ ?_);refine wpAny_bind (wpAny_bind (wpAny_loadPart e ?_));have' lk:nsLook name (dictOf es n)=pure (some v):=nsLook_of ((lookIn_dict name es n).trans (by rewrite [q.getL];refine ae hv ?_;rfl));refine ae lk ?_;refine wpAny_pure ?_;refine ae (if_pos (by rfl)) ?_;refine wpAny_bind (get_value o.fE I p3 (gN p1 ho q hv) hh ?_);exact wpAny_pure ⟨S,o.toks _,h⟩
theorem V2{name:Str}(o:Ok B S X s)(hp:qe B.K C=true)(ht:takerIn B.K C name=some none)(hx:S.has x (.is (zd C d)))(hd:S.get r d=some (.attrs kvs))(hz:kvs.length<=900)(h:∀s',Ok B (S.put r d (.attrs (zi kvs name v))) X s'->R (.ok (.ret .none)) s'):codeAny (model B.prog B.w) A (.call (.builtin "object.__setattr__") ⟨[.ref x,.str name tk,v],[]⟩) R s:=by
 refine Xu (q9 hp) λp1 p2 p3 p4 p5=>?_;refine jg (o.inst hx (St.az hd)) λes n q D I=>?_;refine osa_open o.fE I p2 ht λb=>?_;refine zt (any_some p1) λcd hc lg=>?_;have' dg:_:=I.at_;refine wpAny_bind (wpAny_pure (wpAny_bind (wpAny_bind (wpAny_loadPart dg (wpAny_bind ((looks_clsIn o.fE hc).here ?_))))));refine ae lg ?_;refine wpAny_pure (a:=some d) (wpAny_bind (wpAny_pure (wpAny_bind ?_)));refine wpAny_bind (wpAny_bind (wpAny_askSetting (wpAny_pure (wpAny_bind (wpAny_mkText (wpAny_bind (wpAny_loadPart D ?_)))))));dsimp only;have' c:(!es.toArray.any (·.key.isStr name)&&es.toArray.any (·.refKey))=false:=by
  refine aR Array.any_toList ?_;refine aR Array.any_toList ?_;refine ae q.noRef ?_;rw[Bool.and_false]
 rewrite [aRefKeyMayBeTheName_at];refine ae c ?_;refine wpAny_updatePart D ?_;have D':=Le (Obj.putName name (PyData.keyHash B.w.params name) (.str name s.toks) v) D (by rw[putName_dict];rfl);rw[putName_dict]at D';have q':=q.putL name (PyData.keyHash B.w.params name) s.toks v;have' len:(putL name (PyData.keyHash B.w.params name) (.str name s.toks) v es).length<=1000:=by
  have' e1:_:=q'.length;have' e2:(zi kvs name v).length<=kvs.length+1:=by
   clear e1 hz hd hx o h D I c D' q' q;induction kvs with
   | nil=>exact Kz _
   | cons kv rr ih =>
    obtain⟨y,u⟩:=kv;unfold zi;split
    ·exact Lq _
    ·refine ae Lj ?_;exact OL ih
  exact OM e1 e2 hz rfl
 refine wpAny_bind (wpAny_lookBehind D' (pastItsLine_dict (ae Kd (ae sizeLine_eq (OO len rfl)))) ?_);exact wpAny_pure (h _ (o.put (c':=.attrs (zi kvs name v)) hd (Heap.SameBut.update ..) ⟨_,D',_,_,rfl,q'⟩ _))
theorem zH(hp:qe B.K C=true)(ht:takerIn B.K C name=some none)(hx:S.has x (.is (zd C d)))(hd:S.get r d=some (.attrs kvs))(h:Q () (S.put r d (.attrs (zi kvs name v))))(hz:kvs.length<=900:=by decide):V B A S (setAttr (.ref x) name v) Q:=λX s o=>by
 refine jg (o.inst hx (St.az hd)) λes n q D I=>?_;refine set_plain o.fE I (q9 hp).2.2.2.2 (V2 (o.toks _) hp ht hx hd hz λs' o'=>⟨_,o',h⟩)
/-! a call of a def of pS text -/
noncomputable def zC(n:Nat)(A:Around):Prop:=A3
 (A.depth+3*n<=900)
 (A.units+30*n<=3000)
 (A.handled=none)
theorem zC.lt(R:zC n A):A.depth<recursionLimit:=by have' this:_:=R.1;refine(?_:_<1000);exact Xx this rfl
theorem zC.u(R:zC n A):A.units<cLine:=by have' this:_:=R.2;refine(?_:_<9900);exact Xx this rfl
theorem zC.u1(R:zC n A):A.units+100<cLine:=by have' this:_:=R.2;refine(?_:_<9900);exact OQ this
theorem zC.less(R:zC n A)(h:m<=n):zC m A:=⟨by have' this:_:=R.1;exact OS this h,by have' this:_:=R.2;exact OT this h,R.3⟩
theorem zC.deeper(R:zC (n+1) A)(env:Env):zC n (A.deeper env):=⟨by have' this:_:=R.1;refine(?_:A.depth+1+_<=_);exact OU this,by have' this:_:=R.2;refine(?_:A.units+3+_<=_);exact OV this rfl,R.3⟩
theorem zC.in1(R:zC (n+1) A):zC n A.in1:=⟨by have' this:_:=R.1;refine(?_:A.depth+_<=_);exact OW this,by have' this:_:=R.2;refine(?_:A.units+1+_<=_);exact OX this,R.3⟩
theorem qT:∀(names:List (Str × NameKind)) (n:Nat) (acc:List (Str × Addr)) (x:Str),(∃c,acc.lookup x=some c)\/names.lookup x=some .cell->∃c,(cellsFrom n names acc).lookup x=some c:=by
 intro zl;induction zl with
 | nil =>
  intro n acc x h;rcases h with h | h
  ·exact h
  ·injection h
 | cons zh r ih =>
  obtain⟨y,kd⟩:=zh;intro n acc x h;unfold cellsFrom;by_cases e:x=y
  ·subst e;split
   ·exact ih _ _ x (.inl ⟨n,Mt⟩)
   ·rename_i q;refine ih _ _ x ?_;rcases h with h | h
    ·exact .inl h
    ·exfalso;simp at h;subst h;exact q (by decide)
  ·have b:(x == y)=false:=by simpa using e
   split
   ·refine ih _ _ x ?_;rcases h with ⟨c,h⟩ | h
    ·exact .inl ⟨c,ae Lc (ae b h)⟩
    ·rw[List.lookup_cons,b]at h;exact .inr h
   ·refine ih _ _ x ?_;rcases h with h | h
    ·exact .inl h
    ·rw[List.lookup_cons,b]at h;exact .inr h
theorem gO:∀(names:List (Str × NameKind)) (n:Nat) (acc:List (Str × Addr)) (x:Str) (c:Addr),(x,c)∈cellsFrom n names acc->(x,c)∈acc\/(x,.cell)∈names:=by
 intro zl;induction zl with
 | nil =>
  intro n acc x c h;exact .inl h
 | cons zh r ih =>
  obtain⟨y,kd⟩:=zh;intro n acc x c h;unfold cellsFrom at h;split at h
  ·rename_i q;rcases ih _ _ x c h with h | h
   ·rcases Kw.mp h with h | h
    ·injection h with zz1 zz2;obtain rfl:=zz1;obtain rfl:=zz2;have' this:kd = .cell:=by simpa using q
     subst this;exact .inr (.head _)
    ·exact .inl h
   ·exact .inr (.tail _ h)
  ·rcases ih _ _ x c h with h | h
   ·exact .inl h
   ·exact .inr (.tail _ h)
theorem j1[BEq α][LawfulBEq α]:∀{l:List (α × β)},(l.map (·.1)).Nodup->∀{x:α} {y:β},(x,y)∈l->l.lookup x=some y:=by
 intro zl;induction zl with
 | nil=>intro _ _ _ hm;nomatch hm
 | cons zh r ih =>
  obtain⟨a,b⟩:=zh;intro h x y hm;rw[List.map_cons,List.nodup_cons]at h;refine ae Lc ?_;rcases Kw.mp hm with e | dx
  ·injection e with zz1 zz2;obtain rfl:=zz1;obtain rfl:=zz2;simp
  ·have' this:(x == a)=false:=by
    rw[beq_eq_false_iff_ne];intro e;subst e;exact h.1 (Kr.mpr ⟨(_,y),dx,rfl⟩)
   refine ae this ?_;exact ih h.2 dx
theorem Jd:∀(names:List (Str × NameKind)) (n:Nat) (acc:List (Str × Addr)),(names.map (·.1)).Nodup->(acc.map (·.1)).Nodup->(∀x∈acc.map (·.1),x∉names.map (·.1))->((cellsFrom n names acc).map (·.1)).Nodup:=by
 intro zl;induction zl with
 | nil =>
  intro n acc _ h _;exact h
 | cons zh r ih =>
  obtain⟨y,kd⟩:=zh;intro n acc h1 h2 h3;rw[List.map_cons,List.nodup_cons]at h1;unfold cellsFrom;split
  ·refine ih _ _ h1.2 ?_ ?_
   ·refine ae M7 ?_;rw[List.nodup_cons];exact⟨λq=>h3 _ q (.head _),h2⟩
   ·intro x hx;rw[List.map_cons]at hx;rcases Kw.mp hx with rfl | hx
    ·exact h1.1
    ·exact λq=>h3 x hx (.tail _ q)
  ·exact ih _ _ h1.2 h2 λx hx q=>h3 x hx (.tail _ q)
theorem V4(kindOf:Str->Option NameKind):∀(binds:List (Str × Value)) (m:Str->Option Value) (x:Str),(binds.map (·.1)).Nodup->kindOf x=some .local->bindL kindOf binds m x=(zo binds x).or (m x):=by
 intro zl;induction zl with
 | nil =>
  intro m x _ _;simp[bindL,zo]
 | cons zh r ih =>
  obtain⟨y,v⟩:=zh;intro m x hn hk;rw[List.map_cons,List.nodup_cons]at hn;refine ae (ih _ x hn.2 hk) ?_;unfold zo;refine ae Lc ?_;by_cases e:x=y
  ·subst e;have' this:r.lookup x=none:=by
    cases q:r.lookup x with
    | none=>rfl
    | some u=>exact absurd (Kr.mpr ⟨(x,u),mem_of_lookup q,rfl⟩) hn.1
   refine ae this ?_;refine ae hk ?_;simp
  ·have' b:(x == y)=false:=by simpa using e
   refine ae b ?_;split <;> simp[e]
theorem V7(kindOf:Str->Option NameKind):∀(binds:List (Str × Value)) (m:Str->Option Value) (x:Str),(binds.map (·.1)).Nodup->kindOf x≠some .local->bindC kindOf binds m x=(zo binds x).or (m x):=by
 intro zl;induction zl with
 | nil =>
  intro m x _ _;simp[bindC,zo]
 | cons zh r ih =>
  obtain⟨y,v⟩:=zh;intro m x hn hk;rw[List.map_cons,List.nodup_cons]at hn;refine ae (ih _ x hn.2 hk) ?_;unfold zo;refine ae Lc ?_;by_cases e:x=y
  ·subst e;have' this:r.lookup x=none:=by
    cases q:r.lookup x with
    | none=>rfl
    | some u=>exact absurd (Kr.mpr ⟨(x,u),mem_of_lookup q,rfl⟩) hn.1
   refine ae this ?_;refine ae (if_neg hk) ?_;simp
  ·have' b:(x == y)=false:=by simpa using e
   refine ae b ?_;split <;> simp[e]
noncomputable def Bk(fd:FuncData)(binds:List (Str × Value)):Bool :=
 decide (fd.scope.names.map (·.1)).Nodup&&decide (binds.map (·.1)).Nodup&&binds.all (λx=>ym (fd.scope.names.lookup x.1))&&(fd.scope.kind == .function) && !fd.scope.isCoroutine && !fd.scope.isGenerator&&fd.closure.isEmpty&&(fd.globals == mainGlobals)&&(fd.builtins == builtinsNs)
theorem IQ{X:Addr->Option Obj}{s:Shared}{R:Result->Shared->Prop}{f:Addr}{fd:FuncData}{oc:Value}{od:Option Addr}{cR:Array (Option Value)}{body:List Stmt}{args:List Value}{binds:List (Str × Value)}{n:Nat}{Q:Value->St->Prop}(o:Ok B S X s)(hR:∀v s' S',Ok B S' X s'->Q v S'->R (.ok (.ret v)) s')(hK:B.K.lookup f=some ⟨oc,od,.func fd,cR⟩)(pT:codeIn B.K fd.code fd.qualname=true)(bN:zC (n+1) A)(dK:fd.body = .stmts body)(dM:bindArgs fd ⟨args,[]⟩=pure binds)(cx:Bk fd binds=true)(h:∀A' env,zC n A'->En env fd.scope->W B A' true env binds S (execs body env) (λfl ZZ S'=>∃bg,bg.le S'/\Q (match fl with | .ret v=>v | _=>.none) bg)):codeAny (model B.prog B.w) A (.call (.ref f) ⟨args,[]⟩) R s:=by
 simp only[Bk,Bool.and_eq_true,decide_eq_true_eq,Bool.not_eq_true',beq_iff_eq,List.all_eq_true]at cx;obtain⟨⟨⟨⟨⟨⟨⟨⟨n1,n2⟩,v1⟩,kf⟩,co⟩,ge⟩,cl⟩,gl⟩,bl⟩:=cx;have' V8:fd.closure=[]:=by simpa using cl
 refine(codeAny_call_cells bN.lt (o.fE _ _ hK) rfl (B.nolimit.keeps o.keep) (codeRec_of o.fE pT) dK dM V8 (λx hx=>?_) (λs₁ I=>?_) co ge kf)
 ·have:=v1 x hx;cases e:fd.scope.names.lookup x.1 with
  | none=>rw[e]at this;injection this
  | some kd =>
   rw[e]at this;cases kd <;> first | cases this | skip
   ·exact .inl rfl
   ·refine aB (qT fd.scope.names (s.heap.objs.size+1) [] x.1 (.inr e)) λc hc=>?_;exact .inr ⟨rfl,ae hc rfl⟩
 ·refine j8 I.done λh₁ tk bR ZZ=>?_;obtain rfl:=bR;have keep:=I.toInCall.keep;have fresh:=I.toInCall.fresh;dsimp only at keep;have big:∀a,s.heap.objs.size<=a->S.no a/\X a=none:=λa ha=>by
   refine⟨St.cK λc q=>?_,?_⟩
   ·refine zV (o.3 _ c q) λob e ZZ=>?_;exact L0 _ (Lh (La e) ha)
   ·cases q:X a with
    | none=>rfl
    | some ob=>exact absurd (Lh (La (o.2 _ _ q)) ha) (L0 _)
  have' o₁:Ok B S X { s with heap:=h₁,toks:=tk }:=⟨o.1,λa ob q=>keep _ _ (o.2 a ob q),λa c q=>by refine zt (o.3 a c q) λob e w=>?_;exact⟨ob,keep _ _ e,w⟩,o.4,o.5,o.6,o.7,o.8⟩;have' nd:((callEnvC fd s.heap.objs.size f).cells.map (·.1)).Nodup:=Jd fd.scope.names _ [] n1 L3 (λx hx=>(nomatch hx));have en:En (callEnvC fd s.heap.objs.size f) fd.scope:=by
   refine⟨rfl,kf,gl,bl,λx hx=>qT fd.scope.names _ [] x (.inr hx),λx c hc e=>?_⟩;rcases gO fd.scope.names _ [] x c (mem_of_lookup hc) with q | q
   ·cases q
   ·rw[j1 n1 q]at e;injection e with zz1;injection zz1
  have' loc:∀x v,(callEnvC fd s.heap.objs.size f).kindOf x=some .local->zo binds x=some v->bindL (callEnvC fd s.heap.objs.size f).kindOf binds (λZZ=>none) x=some v:=λx v hx hv=>ae (V4 _ _ _ _ n2 hx) (ae hv rfl);have' f₁:zA true (callEnvC fd s.heap.objs.size f) binds S X { s with heap:=h₁,toks:=tk }:=by
   refine⟨⟨_,I.toInCall.ns,loc⟩,λx c hc=>?_,(big _ fresh).2,(big _ fresh).1,λx c hc=>?_,λZZ=>I.apart,λZZ x c hc=>j1 nd hc⟩
   ·have' q:_:=I.cell x c hc;rw[V7 _ _ _ _ n2 (λe=>en.6 x c hc (by rw[<-en.kindOf];exact e))]at q;exact⟨_,q,λv hv=>ae hv rfl⟩
   ·refine ae (if_pos rfl) ?_;have q:=I.above x c hc;exact⟨(big c (Ks fresh (K5 q))).2,(big c (Ks fresh (K5 q))).1,Ly q⟩
  refine wpAny_mono (h _ _ (bN.deeper _) en X _ o₁ f₁) (λfl s' q=>?_) λZZ ZZ e=>e.elim;obtain⟨vs',S',o',f',bg,l,q⟩:=q;exact hR _ _ bg (o'.weaken l) q
theorem zL(hK:B.K.lookup f=some ⟨oc,od,.func fd,cR⟩)(pT:codeIn B.K fd.code fd.qualname=true)(bN:zC (n+1) A)(dK:fd.body = .stmts body)(dM:bindArgs fd ⟨args,[]⟩=pure binds)(cx:Bk fd binds=true)(h:∀A' env,zC n A'->En env fd.scope->W B A' true env binds S (execs body env) (λfl ZZ S'=>∃bg,bg.le S'/\Q (match fl with | .ret v=>v | _=>.none) bg)):V B A S (call (.ref f) args) Q:=λX s o =>
 wpAny_call (IQ o (λv s' S' o' q=>⟨S',o',q⟩) hK pT bN dK dM cx h)
end
end
section
set_option genSizeOf false
set_option genInjectivity false
open PySem PySem.W PySem.Calls PyProof.Rows
section
variable {α β:Type} {B:Bs} {A:Around} {own:Bool} {env:Env} {vs:Vs} {S:St}
noncomputable def zE(T:List Addr)(env:Env)(S:St)(X:Addr->Option Obj):Prop:=A4
 (∀a∈T,X a=none)
 (∀a∈T,S.no a)
 (∀a∈T,a≠env.locals)
 (∀a∈T,∀x c,(x,c)∈env.cells->c≠a)
noncomputable def yg(T:List Addr)(h h':Heap):Prop:=∀a o,a∉T->h.get? a=some o->h'.get? a=some o
theorem yg.refl(T:List Addr)(h:Heap):yg T h h:=λZZ ZZ ZZ e=>e
theorem yg.trans(a:yg T h h')(b:yg T h' dN):yg T h dN:=λx o n e=>b x o n (a x o n e)
theorem yg.of(hm:it∈T)(e:Heap.ExtBut it h h'):yg T h h':=λa o n q=>e a o (λe'=>n (e'▸hm)) q
theorem Ok.bx(k:Ok B S X s)(hX:∀a∈T,X a=none)(hS:∀a∈T,S.no a)(hs:yg T s.heap h')(t:Nat):Ok B S X { s with heap:=h',toks:=t } :=
 ⟨k.1,λa ob q=>hs a ob (λe=>by rw[hX a e]at q;injection q) (k.2 a ob q),λa c q=>by refine zt (k.3 a c q) λob e w=>?_;exact⟨ob,hs a ob (λe'=>St.bu (hS a e') q) e,w⟩,k.4,k.5,k.6,k.7,k.8⟩
theorem zA.bx(f:zA own env vs S X s)(st:zE T env S X)(hs:yg T s.heap h')(t:Nat):zA own env vs S X { s with heap:=h',toks:=t }:=by
 refine zV f.1 λm fK hm=>?_;obtain⟨ol,es,ep,lL,r⟩:=fK;exact⟨⟨m,⟨ol,es,ep,hs _ _ (λe=>st.3 _ e rfl) lL,r⟩,hm⟩,λx c e=>by refine zV (f.2 x c e) λv₀ iu e3=>?_;obtain⟨ob,e1,e2⟩:=iu;exact⟨v₀,⟨ob,hs c ob (λe'=>st.4 _ e' x c (mem_of_lookup e) rfl) e1,e2⟩,e3⟩,f.3,f.4,f.5,f.6,f.7⟩
theorem zA.Bl(f:zA own env vs S X s):env.locals<s.heap.objs.size:=by refine zV f.1 λZZ hn ZZ=>?_;exact hn.lt
theorem zA.uj(o:Ok B S X s)(f:zA own env vs S X s):∀x c,(x,c)∈env.cells->c<s.heap.objs.size:=λx c e=>by
 cases ow:own with
 | true=>refine zV (f.2 x c (f.7 ow x c e)) λZZ q ZZ=>?_;exact q.lt
 | false =>
  have' q:_:=f.5 x c e;rw[if_neg (by refine ae ow ?_;decide)]at q;refine aB q λob q=>?_;exact La (o.2 c ob q)
theorem Ok.above{X:Addr->Option Obj}{s:Shared}(o:Ok B S X s){a:Addr}(h:s.heap.objs.size<=a):S.no a/\X a=none:=by
 refine⟨St.cK λc q=>?_,?_⟩
 ·refine zV (o.3 _ c q) λob e ZZ=>?_;exact absurd (La e) (K3.mpr h)
 ·cases q:X a with
  | none=>rfl
  | some ob=>exact absurd (La (o.2 _ _ q)) (K3.mpr h)
theorem zE.new{T:List Addr}{X:Addr->Option Obj}{s:Shared}(o:Ok B S X s)(f:zA own env vs S X s)(h:∀a∈T,s.heap.objs.size<=a):zE T env S X :=
 ⟨λa m=>(o.above (h a m)).2,λa m=>(o.above (h a m)).1,λa m=>Ly (Lh f.Bl (h a m)),λa m x c e=>K6 (Lh (f.uj o x c e) (h a m))⟩
open Classical in
noncomputable def XH(T:List Addr)(X:Addr->Option Obj)(h:Heap):Addr->Option Obj:=λa =>
 match X a with
 | some o=>some o
 | none=>if a∈T then h.get? a else none
theorem gt(e:X a=some o):XH T X h a=some o:=by
 unfold XH;refine ae e ?_;rfl
theorem ww(e:X a=none)(m:a∈T):XH T X h a=h.get? a:=by
 unfold XH;refine ae e ?_;exact if_pos m
theorem qy(m:a∉T):XH T X h a=X a:=by
 unfold XH;cases X a with
 | none=>exact if_neg m
 | some o=>rfl
theorem Ok.hide(k:Ok B S X s)(hS:∀a∈T,S.no a):Ok B S (Internal.XH T X s.heap) s:=by
 refine⟨⟨λa ob q=>gt (k.1.1 a ob q),λc v q=>(by refine zt (k.1.2 c v q) λob e d=>?_;exact⟨ob,gt e,d⟩)⟩,λa ob q=>?_,k.3,λa c q=>?_,k.5,k.6,k.7,k.8⟩
 ·unfold Internal.XH at q;split at q
  ·rename_i e;obtain rfl:=Option.some.inj q;exact k.2 a _ e
  ·split at q
   ·exact q
   ·injection q
 ·exact ae (qy λm=>St.bu (hS a m) q) (k.4 a c q)
theorem zA.hide(f:zA own env vs S X s)(st:zE T env S X)(h:Heap):zA own env vs S (Internal.XH T X h) s:=by
 refine⟨f.1,f.2,?_,f.4,λx c e=>?_,f.6,f.7⟩
 ·exact ae (qy λm=>st.3 _ m rfl) f.3
 ·have' q:_:=f.5 x c e;refine ae (qy λm=>st.4 _ m x c e rfl) ?_;exact q
theorem Ok.aE(k:Ok B S X s)(k':Ok B S' (Internal.XH T X s.heap) s'):Ok B S' X s' :=
 ⟨k.1,λa ob q=>k'.2 a ob (gt q),k'.3,λa c q=>by
  have:=k'.4 a c q
  (cases e:X a with
  | none=>rfl
  | some ob=>(rw[gt e]at this;injection this)),k'.5,k'.6,k'.7,k'.8⟩
theorem zA.aE(st:zE T env S X)(f:zA own env vs' S' (Internal.XH T X h) s'):zA own env vs' S' X s':=by
 refine⟨f.1,f.2,?_,f.4,λx c e=>?_,f.6,f.7⟩
 ·have' this:_:=f.3;rwa [qy λm=>st.3 _ m rfl]at this
 ·have' q:_:=f.5 x c e;rw[qy λm=>st.4 _ m x c e rfl]at q;exact q
theorem zE.aE{T:List Addr}{X:Addr->Option Obj}{s s':Shared}(st:zE T env S X)(th:∀a∈T,∃o,s.heap.get? a=some o)(k':Ok B S' (Internal.XH T X s.heap) s'):zE T env S' X/\∀a∈T,s'.heap.get? a=s.heap.get? a:=by
 refine⟨⟨st.1,λa m=>St.cK λc q=>?_,st.3,st.4⟩,λa m=>?_⟩
 ·have:=k'.4 a c q;refine aB (th a m) λo e=>?_;rw[ww (st.1 a m) m,e]at this;injection this
 ·refine aB (th a m) λo e=>?_;refine ae e ?_;exact k'.2 a o ((ww (st.1 a m) m).trans e)
structure Src (B:Bs) where
 n:Nat
 It:Heap->List Addr->Nat->Prop
 need:St->Prop
 keep:∀{h h':Heap} {T:List Addr} {i:Nat},It h T i->(∀a∈T,h'.get? a=h.get? a)->It h' T i
 there:∀{h:Heap} {T:List Addr} {i:Nat},It h T i->∀a∈T,∃o,h.get? a=some o
 self:∀{A:Around} {s:Shared} {T:List Addr} {i:Nat} {Q E:Value->Shared->Prop},It s.heap T i->Q (.ref (T.headD 0)) s->wpAny (model B.prog B.w) A (pyIter (.ref (T.headD 0))) Q E s
 stop:∀{A:Around} {S:St} {X:Addr->Option Obj} {s:Shared} {T:List Addr} {Q:Option Value->Shared->Prop},A.handled=none->Ok B S X s->need S->It s.heap T n->
  (∀h',yg T s.heap h'->Q none { s with heap:=h' })->wpAny (model B.prog B.w) A (pyNext (.ref (T.headD 0))) Q cf s
noncomputable def GH(B:Bs)(A:Around)(own:Bool)(env:Env)(vs:Vs)(S:St)(iter:Expr)(src:Src B)(Q:Vs->St->Prop):Prop :=
 ∀X s,Ok B S X s->zA own env vs S X s->wpAny (model B.prog B.w) A (eval iter env) (λv s₁=>wpAny (model B.prog B.w) A (pyIter v) (λiv s₂ =>
  ∃T vs' S',iv = .ref (T.headD 0)/\Ok B S' X s₂/\zA own env vs' S' X s₂/\zE T env S' X/\src.It s₂.heap T 0/\Q vs' S') cf s₁) cf s
noncomputable def gG(B:Bs)(A:Around)(own:Bool)(env:Env)(target:Expr)(src:Src B)(Bind:Nat->Vs->St->Vs->St->Prop):Prop :=
 ∀X s vs S T i,i<src.n->Ok B S X s->zA own env vs S X s->zE T env S X->src.It s.heap T i->src.need S->wpAny (model B.prog B.w) A (pyNext (.ref (T.headD 0))) (λr s₁=>∃v,r=some v/\
  wpAny (model B.prog B.w) A (letOwnedTupleGo target (.ref (T.headD 0)) v) (λZZ s₂=>wpAny (model B.prog B.w) A (assign target env v) (λZZ s₃ =>
   E2 λvs' S'=>A5 (Ok B S' X s₃) (zA own env vs' S' X s₃) (zE T env S' X) (src.It s₃.heap T (i+1)) (Bind i vs S vs' S')) cf s₂) cf s₁) cf s
inductive V9 (B:Bs) (own:Bool) (env:Env) (X:Addr->Option Obj) (T:List Addr) (src:Src B) (Inv:Nat->Vs->St->Prop) (n:Nat) (s:Shared):Prop
 | mk (i:Nat) (vs:Vs) (S:St) (hi:i<=src.n) (hn:n=src.n - i) (o:Ok B S X s) (f:zA own env vs S X s) (hS:zE T env S X) (hit:src.It s.heap T i) (hI:Inv i vs S)
theorem IT(src:Src B){target:Expr}{body:List Stmt}{Q:Flow->Vs->St->Prop}{T:List Addr}{X:Addr->Option Obj}{Bind:Nat->Vs->St->Vs->St->Prop}(hd:gG B A own env target src Bind)(Inv:Nat->Vs->St->Prop)(hh:A.handled=none)(need:∀i vs S,Inv i vs S->src.need S)(step:∀i vs S vs' S',i<src.n->Inv i vs S->Bind i vs S vs' S'->W B A own env vs' S' (execs body env) (λfl vs S=>match fl with
   | .next | .cont=>Inv (i+1) vs S
   | .brk=>Q .next vs S
   | .ret r=>Q (.ret r) vs S))(fin:∀vs S,Inv src.n vs S->Q .next vs S){i:Nat}{s:Shared}(hi:i<=src.n)(o:Ok B S X s)(f:zA own env vs S X s)(hS:zE T env S X)(hit:src.It s.heap T i)(hI:Inv i vs S):
  codeAny (model B.prog B.w) A (.forLoop target (.ref (T.headD 0)) body [] env) (λr s'=>match r with | .ok fl=>Po B own env X Q fl s' | .error e=>cameBackBy (model B.prog B.w) A env cf e s') s:=by
 refine codeAny_forLoop_any (V9 B own env X T src Inv) (λn s hI=>?_) (src.n - i) ⟨i,vs,S,hi,rfl,o,f,hS,hit,hI⟩;obtain⟨i,vs,S,hi,rfl,o,f,hS,hit,hI⟩:=hI;by_cases aC:i<src.n
 ·refine wpAny_mono (hd X s vs S T i aC o f hS hit (need _ _ _ hI)) (λr s₁ q=>?_) λZZ ZZ e=>e.elim;obtain⟨v,rfl,q⟩:=q;refine wpAny_mono q (λZZ s₂ q=>wpAny_mono q (λZZ s₃ q=>?_) λZZ ZZ e=>e.elim) λZZ ZZ e=>e.elim;obtain⟨vs',S',k₁,f₁,dp,it₁,bd⟩:=q;have' th:_:=src.there it₁;refine wpAny_mono (step i vs S vs' S' aC hI bd _ s₃ (k₁.hide dp.2) (f₁.hide dp _)) (λfl s₄ q=>?_) λZZ ZZ e=>e.elim;obtain⟨aD,S₃,k₃,f₃,q⟩:=q;refine bE (dp.aE th k₃) λdq e₄=>?_;have k₄:=k₁.aE k₃;have f₄:=f₃.aE dp;cases fl with
  | next=>exact⟨src.n - (i+1),by exact CA aC hi,i+1,aD,S₃,aC,rfl,k₄,f₄,dq,src.keep it₁ e₄,q⟩
  | cont=>exact⟨src.n - (i+1),by exact CA aC hi,i+1,aD,S₃,aC,rfl,k₄,f₄,dq,src.keep it₁ e₄,q⟩
  | brk=>exact⟨aD,S₃,k₄,f₄,q⟩
  | ret r=>exact⟨aD,S₃,k₄,f₄,q⟩
 ·have' e:i=src.n:=CB hi aC;subst e;refine wpAny_mono (src.stop hh o (need _ _ _ hI) hit (Q:=λr s₁=>r=none/\Ok B S X s₁/\zA own env vs S X s₁) λh' hs=>⟨rfl,o.bx hS.1 hS.2 hs s.toks,f.bx hS hs s.toks⟩) (λr s₁ hr=>?_) λZZ ZZ e=>e.elim;refine Qe hr λbG k₁ f₁=>?_;obtain rfl:=bG;exact wpAny_execs_nil ⟨vs,S,k₁,f₁,fin _ _ hI⟩
theorem IU(src:Src B){target iter:Expr}{body:List Stmt}{pos:Pos}{Q:Flow->Vs->St->Prop}{Bind:Nat->Vs->St->Vs->St->Prop}(Inv:Nat->Vs->St->Prop)(hh:A.handled=none)(hi:GH B A own env vs S iter src (Inv 0))(hd:gG B A own env target src Bind)(need:∀i vs S,Inv i vs S->src.need S)(step:∀i vs S vs' S',i<src.n->Inv i vs S->Bind i vs S vs' S'->W B A own env vs' S' (execs body env) (λfl vs S=>match fl with
   | .next | .cont=>Inv (i+1) vs S
   | .brk=>Q .next vs S
   | .ret r=>Q (.ret r) vs S))(fin:∀vs S,Inv src.n vs S->Q .next vs S)(hs:∀x,foldedSetIterable iter env x=pure x:=by intro _;rfl):W B A own env vs S (exec (.For target iter body [] pos) env) Q:=λX s o f=>by
 refine wpAny_For (wpAny_mono (hi X s o f) (λv s₁ q=>wpAny_mono q (λiv s₂ q=>?_) λZZ ZZ e=>e.elim) λZZ ZZ e=>e.elim) hs;refine yw q λT vs' S' cA k₂ f₂ st it hI=>?_;obtain rfl:=cA;exact IT src hd Inv hh need step fin (Kt _) k₂ f₂ st it hI
theorem wx(Inv:Nat->Vs->St->Prop)(n:Nat)(h0:Inv n vs S)(step:∀n vs S,Inv n vs S->W B A own env vs S (isTrue test env (eval test env)) (λb vs S=>if b=true then W B A own env vs S (execs body env) (λfl vs S=>match fl with
   | .next | .cont=>∃m,m<n/\Inv m vs S
   | .brk=>Q .next vs S
   | .ret r=>Q (.ret r) vs S) else Q .next vs S)):W B A own env vs S (exec (.While test body [] pos) env) Q:=λX s o f=>by
 refine wpAny_While (codeAny_whileLoop (λn s=>∃vs S,Ok B S X s/\zA own env vs S X s/\Inv n vs S) (λn s hI=>?_) n ⟨vs,S,o,f,h0⟩);refine jg hI λvs S o f hI=>?_;refine wpAny_mono (step n vs S hI X s o f) (λb s₁ q=>?_) λZZ ZZ e=>e.elim;obtain⟨bf,S₁,k₁,f₁,q⟩:=q;cases b with
 | true =>
  simp only[if_true]at q |-;refine wpAny_mono (q X s₁ k₁ f₁) (λfl s₂ q=>?_) λZZ ZZ e=>e.elim;obtain⟨aI,S₂,k₂,f₂,q⟩:=q;cases fl with
  | next=>refine zt q λm hm q=>?_;exact⟨m,hm,aI,S₂,k₂,f₂,q⟩
  | cont=>refine zt q λm hm q=>?_;exact⟨m,hm,aI,S₂,k₂,f₂,q⟩
  | brk=>exact⟨aI,S₂,k₂,f₂,q⟩
  | ret r=>exact⟨aI,S₂,k₂,f₂,q⟩
 | false =>
  simp only[Bool.false_eq_true,if_false]at q |-;exact wpAny_execs_nil ⟨bf,S₁,k₁,f₁,q⟩
/-! walks by one iterator -/
structure gH (B:Bs) where
 val:Value
 n:Nat
 P:Nat->Value->Prop
 It:Heap->Addr->Nat->Prop
 need:St->Prop
 keep:∀{h h':Heap} {it:Addr} {i:Nat},It h it i->h'.get? it=h.get? it->It h' it i
 there:∀{h:Heap} {it:Addr} {i:Nat},It h it i->∃o,h.get? it=some o
 self:∀{A:Around} {s:Shared} {it:Addr} {i:Nat} {Q E:Value->Shared->Prop},It s.heap it i->Q (.ref it) s->wpAny (model B.prog B.w) A (pyIter (.ref it)) Q E s
 start:∀{A:Around} {S:St} {X:Addr->Option Obj} {s:Shared} {Q:Value->Shared->Prop},Ok B S X s->need S->
  (∀o,o.isFreed=false->It (s.heap.push o) s.heap.objs.size 0->Q (.ref s.heap.objs.size) { s with heap:=s.heap.push o })->wpAny (model B.prog B.w) A (pyIter val) Q cf s
 item:∀{A:Around} {S:St} {X:Addr->Option Obj} {s:Shared} {it:Addr} {i:Nat} {Q:Option Value->Shared->Prop},Ok B S X s->need S->It s.heap it i->i<n->
  (∀v h' tk,P i v->It h' it (i+1)->Heap.SameBut it s.heap h'->Q (some v) { s with heap:=h',toks:=tk })->wpAny (model B.prog B.w) A (pyNext (.ref it)) Q cf s
 stop:∀{A:Around} {S:St} {X:Addr->Option Obj} {s:Shared} {it:Addr} {Q:Option Value->Shared->Prop},A.handled=none->Ok B S X s->need S->It s.heap it n->
  (∀h',Heap.ExtBut it s.heap h'->Q none { s with heap:=h' })->wpAny (model B.prog B.w) A (pyNext (.ref it)) Q cf s
noncomputable def gH.src(s1:gH B):Src B where
 n:=s1.n
 It:=λh T i=>∃it,T=[it]/\s1.It h it i
 need:=s1.need
 keep:=λzp k=>by refine zt zp λit e q=>?_;exact⟨it,e,s1.keep q (k it (e▸.head _))⟩
 there:=λzp a m=>by refine zt zp λit e q=>?_;subst e;refine ae (Kf.mp m) ?_;exact s1.there q
 self:=λzp h=>by refine zt zp λit e q=>?_;subst e;exact s1.self q h
 stop:=λhh o hn zp h=>by refine zt zp λit e q=>?_;subst e;exact s1.stop hh o hn q λh' hs=>h h' (yg.of (.head _) hs)
theorem zr(s1:gH B){sc:Scope}{x:Str}{pos:Pos}(en:En env sc)(hk:ym (sc.names.lookup x)=true)(ho:own=true\/sc.names.lookup x=some .local):
  gG B A own env (.Name x pos) s1.src (λi vs S vs' S'=>S'=S/\∃v,s1.P i v/\vs'=zi vs x v):=λX s vs S T i aC o f st hit hn=>by
 obtain⟨it,rfl,hit⟩:=hit;refine s1.item o hn hit aC λv h' tk hP bw hs=>⟨v,rfl,?_⟩;refine wpAny_of_eq (a:=()) (by rfl) ?_;have ext:yg [it] s.heap h':=yg.of (.head _) hs.extBut;have k₁:=o.bx st.1 st.2 ext tk;have f₁:=f.bx st ext tk;refine aB (s1.there bw) λoi eK=>?_;have' th:∀a∈[it],∃o,h'.get? a=some o:=λa m=>ae (Kf.mp m) ⟨_,eK⟩;refine wpAny_mono (z8 (Q:=λZZ vs' S'=>vs'=zi vs x v/\S'=S) en hk ho ⟨rfl,rfl⟩ _ _ (k₁.hide st.2) (f₁.hide st h')) (λZZ s₃ q=>?_) λZZ ZZ e=>e.elim;obtain⟨aD,S₃,k₃,f₃,rfl,rfl⟩:=q;refine bE (st.aE (s:={ s with heap:=h',toks:=tk }) th k₃) λdq e₄=>?_;exact⟨_,_,k₁.aE k₃,f₃.aE st,dq,⟨it,rfl,s1.keep bw (e₄ it (.head _))⟩,rfl,v,hP,rfl⟩
end
end
section
set_option genSizeOf false
set_option genInjectivity false
open PySem PySem.W PySem.Calls PyProof.Rows
section
variable {α β:Type} {B:Bs} {A:Around} {own:Bool} {env:Env} {vs:Vs} {S:St}
theorem Ok.list{X:Addr->Option Obj}{s:Shared}{a:Addr}{xs:List Value}(o:Ok B S X s)(h:S.has a (.list xs)):s.heap.IsList a xs.toArray :=
 by refine JX (o.3 _ _ h) λZZ e n q=>?_;exact⟨_,e,ae q rfl,n,ae q rfl⟩
theorem Ok.cS{X:Addr->Option Obj}{s:Shared}{a:Addr}{xs:List Value}(o:Ok B S X s)(h:S.has a (.list xs)):∃n,IsL s.heap a xs.toArray n :=
 by refine JX (o.3 _ _ h) λZZ e n q=>?_;exact⟨n,by rw[q]at e;exact e⟩
theorem Ok.tup{X:Addr->Option Obj}{s:Shared}{a:Addr}{xs:List Value}(o:Ok B S X s)(h:S.has a (.tup xs)):IsTup s.heap a xs.toArray :=
 by refine JX (o.3 _ _ h) λZZ e n q=>?_;exact⟨_,e,ae q rfl,n,ae q rfl⟩
theorem Ok.uk{X:Addr->Option Obj}{s:Shared}{a:Addr}{xs:List Value}(o:Ok B S X s)(h:S.has a (.tup xs)):∃n,IsT s.heap a xs.toArray n :=
 by refine JX (o.3 _ _ h) λZZ e n q=>?_;exact⟨n,by rw[q]at e;exact e⟩
theorem Ok.dict(o:Ok B S X s)(h:S.has a (.dict es)):∃n,s.heap.get? a=some (Q5 es n) :=
 by refine JX (o.3 _ _ h) λZZ e n q=>?_;exact⟨n,by rw[q]at e;exact e⟩
noncomputable def jn.ty:jn->String
 | .list _=>"list"
 | .tup _=>"tuple"
 | .dict _=>"dict"
 | .attrs _=>"dict"
 | .set _ _=>"set"
 | .is _=>""
theorem Ok.typeIs(o:Ok B S X s)(h:S.has a c)(hc:c.ty≠""):s.TypeIs (.ref a) c.ty:=by
 refine zt (o.3 _ _ h) λob e q=>?_;cases c with
 | is _=>exact absurd rfl hc
 | list _=>obtain⟨n,rfl⟩:=q;exact⟨_,e,rfl⟩
 | tup _=>obtain⟨n,rfl⟩:=q;exact⟨_,e,rfl⟩
 | dict _=>obtain⟨n,rfl⟩:=q;exact⟨_,e,rfl⟩
 | attrs _=>refine j8 q λZZ n bR ZZ=>?_;obtain rfl:=bR;exact⟨_,e,rfl⟩
 | set _ _=>obtain⟨n,rfl⟩:=q;exact⟨_,e,rfl⟩
theorem Ok.noDict(o:Ok B S X s)(h:S.has a c)(hc:c.ty≠""):∀b,Value.ref a = .ref b->∃ob,s.heap.get? b=some ob/\ob.dict=none:=by
 intro b eb;injection eb with zz1;obtain rfl:=zz1;refine zt (o.3 _ _ h) λob e q=>?_;refine⟨ob,e,?_⟩;cases c with
 | is _=>exact absurd rfl hc
 | list _=>obtain⟨n,rfl⟩:=q;rfl
 | tup _=>obtain⟨n,rfl⟩:=q;rfl
 | dict _=>obtain⟨n,rfl⟩:=q;rfl
 | attrs _=>refine j8 q λZZ n bo ZZ=>?_;obtain rfl:=bo;rfl
 | set _ _=>obtain⟨n,rfl⟩:=q;rfl
theorem yF{name:Str}{id:String}(h:S.has a c)(hc:c.ty≠"")(pa:PlainAttrs c.ty)(slot:Slot c.ty name id)(Wa:typeOf (.builtin id)=pure (.type "method_descriptor"))(hq:Q (.builtin id,[.ref a]) S):V B A S (getMethod (.ref a) name pl) Q:=λX s o=>getMethod_builtin (o.typeIs h hc) pa slot Wa (o.noDict h hc) ⟨S,o,hq⟩
/-! ints -/
theorem yO(h:∀t,Q (.int (a+b) t) S):V B A S (binaryOp .Add (.int a t) (.int b u)) Q:=λX s o=>PyProof.Rows.add_int ⟨S,o.toks _,h _⟩
theorem Zs(h:∀t,Q (.int (a - b) t) S):V B A S (binaryOp .Sub (.int a t) (.int b u)) Q:=λX s o=>PyProof.Rows.sub_int ⟨S,o.toks _,h _⟩
theorem Q8(hb:b≠0)(h:∀t,Q (.int (a.fmod b) t) S):V B A S (binaryOp .Mod (.int a t) (.int b u)) Q:=λX s o=>PyProof.Rows.mod_int hb ⟨S,o.toks _,h _⟩
theorem xa(h:Q (.bool (decide (a<b))) S):V B A S (compareOp .Lt (.int a t) (.int b u)) Q:=λX s o=>PyProof.Rows.lt_int ⟨S,o,h⟩
theorem Wb(h:Q (.bool (decide (b<a))) S):V B A S (compareOp .Gt (.int a t) (.int b u)) Q:=λX s o=>PyProof.Rows.gt_int ⟨S,o,h⟩
theorem xb(h:Q (.bool (a == b)) S):V B A S (compareOp .Eq (.int a t) (.int b u)) Q:=λX s o=>PyProof.Rows.eq_int ⟨S,o,h⟩
theorem xc(h:Q (.bool (a != b)) S):V B A S (compareOp .NotEq (.int a t) (.int b u)) Q:=λX s o=>PyProof.Rows.ne_int ⟨S,o,h⟩
/-! lists,tuples -/
theorem zI(hl:S.has a (.list xs))(hz:xs.length<2 ^ 62)(h:∀t,Q (.int xs.length t) S):V B A S (call (.builtin "len") [.ref a]) Q:=λX s o =>
 call_len_list (o.list hl) (by exact ae Kd (oV hz)) (ae Kd ⟨S,o.toks _,h _⟩)
theorem zm{k:Nat}(hl:S.has a (.list xs))(hx:xs[k]? = some v)(h:Q v S)(hz:k<2 ^ 62)(hs:subscripted slice false (.ref a) (.int k t)=operate [.ref a,.int k t] (getItem (.ref a) (.int k t)):=by with_unfolding_all rfl):V B A S (subscriptTail value slice (.ref a) (.int k t)) Q:=λX s o =>
 tail_any (o.list hl).typeIs slot_list_getitem.lookup (wpAny_getItem_list (o.list hl) Hv (oV hz) (by simpa using hx) ⟨S,o,h⟩) hs
theorem C2{k n:Nat}(h:k<n):seqIndex? (k:Int) n=some k:=by
 have h1:=Mo k;unfold seqIndex?;rw[if_neg (Int.not_lt.mpr h1)];exact if_pos (My.mpr ⟨decide_eq_true h1,decide_eq_true (Lv.mpr h)⟩)
theorem qq{k:Nat}(hl:S.has a (.tup xs))(hx:xs[k]? = some v)(h:Q v S)(hz:k<2 ^ 62)(hs:subscripted slice false (.ref a) (.int k t)=operate [.ref a,.int k t] (getItem (.ref a) (.int k t)):=by with_unfolding_all rfl):V B A S (subscriptTail value slice (.ref a) (.int k t)) Q:=λX s o =>
 item_tupleT (o.tup hl) Cw (oV hz) (j:=k) (C2 (Kb.mp hx).1) hx ⟨S,o,h⟩ hs
theorem Ok.mapSeq{r:Rg}{X:Addr->Option Obj}{s:Shared}{a:Addr}{xs ys:List Value}{f:Array Value->Array Value}(o:Ok B S X s)(hr:S.get r a=some (.list xs))(hf:f xs.toArray=ys.toArray)(t:Nat):
  Ok B (S.put r a (.list ys)) X { s with heap:=s.heap.update a (Obj.mapSeq f),toks:=t }:=by
 refine aB (o.cS (St.az hr)) λn e=>?_;refine o.put (c':=.list ys) hr (Heap.SameBut.update ..) ⟨_,Le _ e rfl,?_⟩ t;refine(?_:∃m,Obj.mapSeq f { cls:=.type "list",data:=.seq xs.toArray n }=_);exact⟨(if (f xs.toArray).size == xs.toArray.size then n else n+1),by unfold Obj.mapSeq;dsimp only;refine ae hf ?_;rfl⟩
theorem JY(hl:S.get r a=some (.list xs))(hk:k<xs.length)(hz:k<2 ^ 62)(h:Q () (S.put r a (.list (xs.set k v)))):V B A S (setItem (.ref a) (.int k t) v) Q:=λX s o=>by
 refine aB (o.cS (St.az hl)) λn e=>?_;refine ki_setAt (n:=n) e Hv (oV hz) (ae Kd (CC hk)) ⟨_,o.mapSeq hl ?_ s.toks,h⟩
 apply Array.toList_inj.mp
 simp
theorem jR(hl:S.get r a=some (.list xs))(hz:xs.length<=1000000)(h:Q .none (S.put r a (.list (xs++[v])))):V B A S (call (.builtin "list.append") ([.ref a]++[v])) Q:=λX s o=>by
 refine aB (o.cS (St.az hl)) λn e=>?_;refine call_meets F.slot_list_append ⟨_,e,rfl⟩ F.entry_list_append (F.args_list_append_2 _ _) (list_append a xs.toArray n v (ae Kd (ae sizeLine_eq (zS hz rfl)))) ⟨e,⟨_,o.mapSeq hl ?_ s.toks,h⟩⟩;exact List.push_toArray _ _
theorem Wc(hl:S.get r a=some (.list (xs++[v])))(hz:xs.length<=1000000)(h:Q v (S.put r a (.list xs))):V B A S (call (.builtin "list.pop") ([.ref a]++[])) Q:=λX s o=>by
 refine aB (o.cS (St.az hl)) λn e=>?_;refine call_meets F.slot_list_pop ⟨_,e,rfl⟩ F.entry_list_pop (F.args_list_pop_1 _) (PySem.MeetsSeq.list_pop_last a (xs++[v]).toArray n v (by simp) (ae Kd (ae sizeLine_eq (ae Ki (ae Kj (JU hz rfl)))))) ⟨e,⟨_,o.mapSeq hl ?_ s.toks,h⟩⟩
 apply Array.toList_inj.mp
 simp[Array.eraseIdxIfInBounds,List.eraseIdx_append_of_length_le]
theorem GI(hl:S.get r a=some (.list xs))(hb:S.has b (.list ys))(hz:xs.length<=1000000)(aS:ys.length<=1000000)(h:Q .none (S.put r a (.list (xs++ys)))):V B A S (call (.builtin "list.extend") ([.ref a]++[.ref b])) Q:=λX s o=>by
 refine aB (o.cS (St.az hl)) λn e=>?_;refine aB (o.cS hb) λm e2=>?_;refine call_meets F.slot_list_extend ⟨_,e,rfl⟩ F.entry_list_extend (F.args_list_extend_2 _ _) (AutoSeq1.list_extend_list_list_0 a xs.toArray n b ys.toArray m ?_ (ae Kd (ae sizeLine_eq (zS hz rfl))) (ae Kd (ae Kd (ae sizeLine_eq (OY hz aS))))) ⟨e,e2,⟨_,o.mapSeq hl ?_ s.toks,h⟩⟩
 ·refine ae Kd ?_;refine ae Kd ?_;intro q;have' this:_:=(My.mp q).2;unfold Builtin.List.listTooLong at this;simp[sizeLine_eq]at this;exact OZ this hz aS
 ·exact List.append_toArray _ _
theorem JZ(ha:S.has a (.list xs))(hb:S.has b (.list ys))(hz:xs.length<=1000000)(aS:ys.length<=1000000)(h:∀c,S.no c->Q (.ref c) (S.put r c (.list (xs++ys)))):V B A S (binaryOp .Add (.ref a) (.ref b)) Q:=λX s o=>by
 refine aB (o.cS ha) λn e=>?_;refine aB (o.cS hb) λm e2=>?_;refine P.add_list e e2 ⟨_,o.new (r:=r) (c':=.list (xs++ys)) o.lt.1 o.lt.2 (λb ob q e=>Ke _ q) ⟨_,Kl _ rfl,0,?_⟩ _ rfl rfl rfl,h _ o.lt.1⟩ (ae Kd (ae Kd (ae sizeLine_eq (Hs hz aS))));simp
theorem Ok.grown{X:Addr->Option Obj}{s:Shared}(o:Ok B S X s){h':Heap}(hk:∀b ob,s.heap.get? b=some ob->h'.get? b=some ob)(t:Nat):Ok B S X { s with heap:=h',toks:=t } :=
 ⟨o.1,λa ob q=>hk _ _ (o.2 a ob q),λa c q=>by refine zt (o.3 a c q) λob e w=>?_;exact⟨ob,hk _ _ e,w⟩,o.4,o.5,o.6,o.7,o.8⟩
theorem yh(hl:S.has a (.list xs))(hz:xs.length<=1000000)(h:∀c,S.no c->Q (.ref c) (S.put r c (.tup xs))):V B A S (call (.type "tuple") ([]++[.ref a])) Q:=λX s o =>
 call_tuple_list (o.list hl) (λh' hk=>by
  have o':=o.grown hk s.toks;exact⟨_,o'.new (r:=r) (c':=.tup xs) o'.lt.1 o'.lt.2 (λb ob q e=>Ke _ q) ⟨_,Kl _ rfl,0,rfl⟩ _ rfl rfl rfl,h _ o'.lt.1⟩) (ae Kd (ae sizeLine_eq (zS hz rfl)))
theorem GJ(hl:S.has a (.tup xs))(h:Q (.ref a) S):V B A S (call (.type "tuple") ([]++[.ref a])) Q:=λX s o =>
 call_tuple_same (o.tup hl) ⟨S,o,h⟩
theorem ZU(hl:S.has a (.list xs))(hz:xs.length<=1000000)(h:∀c,S.no c->Q (.ref c) (S.put r c (.list xs))):V B A S (call (.type "list") ([]++[.ref a])) Q:=λX s o=>by
 refine aB (o.cS hl) λn e=>?_;refine call_list_seq a (.inl rfl) e rfl rfl (λh' c' hk hn=>?_) (ae Kd (ae sizeLine_eq (zS hz rfl)));exact⟨_,o.new (r:=r) (c':=.list xs) o.lt.1 o.lt.2 (λb ob q ZZ=>hk b ob q) ⟨_,hn,c',rfl⟩ _ rfl rfl rfl,h _ o.lt.1⟩
/-! Wd a for Wf over -/
noncomputable def zf(B:Bs)(a:Addr)(xs:List Value):gH B where
 val:=.ref a
 n:=xs.length
 P:=λi v=>xs[i]? = some v
 It:=λh it i=>∃o,h.get? it=some o/\o.cls = .type "list_iterator"/\o.data = .fields #[.ref a,.int i 0]
 need:=λS=>S.has a (.list xs)
 keep:=λzp q=>by refine zt zp λo e r=>?_;exact⟨o,q.trans e,r⟩
 there:=λzp=>by refine zV zp λo e ZZ=>?_;exact⟨o,e⟩
 self:=λhit h=>wpAny_pyIter_listiter hit h
 start:=λo hn h=>wpAny_pyIter_list (o.list hn) (h _ rfl ⟨_,Kl _ rfl,rfl,rfl⟩)
 item:=fun {A S X s it i Q} o hn hit aC h=>by
  have' hx:xs[i]? = some (xs[i]'aC):=Ka aC;exact wpAny_pyNext_list_item hit (o.list hn) (by simpa using hx) λh' bw hs=>h _ h' _ hx bw hs
 stop:=λhh o hn hit h=>wpAny_pyNext_list_end hh hit (o.list hn) (by simp) h
noncomputable def jp(B:Bs)(a:Addr)(xs:List Value):gH B where
 val:=.ref a
 n:=xs.length
 P:=λi v=>xs[i]? = some v
 It:=λh it i=>∃o,h.get? it=some o/\o.cls = .type "tuple_iterator"/\o.data = .fields #[.ref a,.int i 0]
 need:=λS=>S.has a (.tup xs)
 keep:=λzp q=>by refine zt zp λo e r=>?_;exact⟨o,q.trans e,r⟩
 there:=λzp=>by refine zV zp λo e ZZ=>?_;exact⟨o,e⟩
 self:=λhit h=>wpAny_pyIter_tupleiter hit h
 start:=λo hn h=>wpAny_pyIter_tuple (o.tup hn) (h _ rfl ⟨_,Kl _ rfl,rfl,rfl⟩)
 item:=fun {A S X s it i Q} o hn hit aC h=>by
  have' hx:xs[i]? = some (xs[i]'aC):=Ka aC;exact wpAny_pyNext_tuple_item hit (o.tup hn) (by simpa using hx) λh' bw hs=>h _ h' _ hx bw hs
 stop:=λhh o hn hit h=>wpAny_pyNext_tuple_end hh hit (o.tup hn) (by simp) h
end
end
section
set_option genSizeOf false
set_option genInjectivity false
open PySem PySem.W PySem.Calls PyProof.Rows
section
variable {α β:Type} {B:Bs} {A:Around} {own:Bool} {env:Env} {vs:Vs} {S:St}
theorem Mp.le.get{k k':Mp}(h:k.le k'){a:Addr}{c:jn}(q:k a=some c):k' a=some c:=h a c q
theorem Mp.av{k:Mp}{a:Addr}{c:jn}(h:k a=none):k.le (upd k a c):=Mp.eS k c h
theorem Q9(h:Q [] vs S):xD B A own env [] vs S Q:=h
theorem qz(h:W B A own env vs S (eval e env) (λv vs S=>xD B A own env r vs S (λl=>Q (v::l)))):xD B A own env (e::r) vs S Q:=h
theorem ze{l:List Value}{Q:Value->Vs->St->Prop}(bT:l.length<=1000000)(h:∀a k',S.k.le k'->k' a=some (.tup l)->S.no a->Q (.ref a) vs (S.to .k k')):W B A own env vs S (newTuple l) Q :=
 ao (V1 (r:=.k) (ae sizeLine_eq (zS bT rfl)) λa n=>h a _ (Mp.av (n .k)) (za _ _ _) n)
theorem ya{l:List Value}{Q:Value->Vs->St->Prop}(bT:l.length<=1000000)(h:∀a k',S.k.le k'->k' a=some (.list l)->S.no a->Q (.ref a) vs (S.to .k k')):W B A own env vs S (newList l) Q :=
 ao (Q7 (r:=.k) (ae sizeLine_eq (zS bT rfl)) λa n=>h a _ (Mp.av (n .k)) (za _ _ _) n)
theorem jr(r:Rg)(bT:l.length<=1000000)(h:∀a,S.no a->Q (.ref a) vs (S.put r a (.list l))):W B A own env vs S (newList l) Q :=
 ao (Q7 (r:=r) (ae sizeLine_eq (zS bT rfl)) λa n=>h a n)
theorem Ok.cH(o:Ok B S X s)(h:S.has a c):(a == sysModules)=false:=by
 simpa using o.6 a c h
noncomputable def DK{K:Type}[DecidableEq K](knd:KeyKind B.prog B.w K)(es:List DictEntry)(kvs:List (K × Value)):Prop:=KeysOf knd es.toArray/\Pairs knd es kvs/\(kvs.map (·.1)).Nodup
theorem DK.nil{K:Type}[DecidableEq K](knd:KeyKind B.prog B.w K):DK knd [] []:=⟨λe he=>by simp at he,.nil,L3⟩
section
variable {K:Type} [DecidableEq K] {knd:KeyKind B.prog B.w K} {es:List DictEntry} {kvs:List (K × Value)} {d:Addr}
theorem Ok.dictOf(o:Ok B S X s)(h:S.has d (.dict es))(D:DK knd es kvs):s.heap.DictOf knd d kvs :=
 let⟨n,e⟩:=o.dict h
 ⟨_,_,n,e,⟨rfl,rfl,rfl⟩,rfl,D.1,by simpa using D.2.1,D.2.2⟩
theorem qr{h:Heap}(x:h.DictOf knd d kvs):∃es',DK knd es' kvs/\∃ob,h.get? d=some ob/\(jn.dict es').Fits ob:=by
 refine yw x λo es ep e fK hd hk hp hn=>?_;obtain⟨h1,h2,h3⟩:=fK;obtain⟨c,dd,dt,sl⟩:=o;dsimp only at h1 h2 h3 hd;subst h1 h2 h3 hd;exact⟨es.toList,⟨by simpa using hk,hp,hn⟩,_,e,ep,by simp⟩
theorem yz(h:S.has d (.dict es))(D:DK knd es kvs)(hk:knd.is k key=true)(hq:Q ((valueAt kvs k).getD .none) S):V B A S (call (.builtin "dict.get") ([.ref d]++[key])) Q:=λX s o =>
 call_meetsIn F.slot_dict_get (o.dictOf h D).typeIs F.entry_dict_get (F.args_dict_get_2 _ _) (meets_dict_get knd d hk (o.cH h)) ⟨_,(o.dictOf h D).mapOf,⟨S,o.toks _,hq⟩⟩
theorem ZV{key dflt:Value}{k:K}(h:S.has d (.dict es))(D:DK knd es kvs)(hk:knd.is k key=true)(hq:Q ((valueAt kvs k).getD dflt) S):V B A S (call (.builtin "dict.get") ([.ref d]++[key,dflt])) Q:=λX s o =>
 call_meetsIn F.slot_dict_get (o.dictOf h D).typeIs F.entry_dict_get (F.args_dict_get_3 _ _ _) (meets_dict_get_default knd d hk (o.cH h) dflt) ⟨_,(o.dictOf h D).mapOf,⟨S,o.toks _,hq⟩⟩
theorem jG(h:S.has d (.dict es))(D:DK knd es kvs)(hk:knd.is k key=true)(hv:valueAt kvs k=some v)(hq:Q v S)(hs:subscripted slice false (.ref d) key=operate [.ref d,key] (getItem (.ref d) key):=by with_unfolding_all rfl):V B A S (subscriptTail value slice (.ref d) key) Q:=λX s o =>
 tail_any (o.dictOf h D).typeIs slot_dict_getitem.lookup (wpAny_getItem_of hk (o.dictOf h D).mapOf hv ⟨S,o.toks _,hq⟩) hs
theorem yP{r:Rg}{key v:Value}{k:K}{Q:Unit->St->Prop}(h:S.get r d=some (.dict es))(D:DK knd es kvs)(hk:knd.is k key=true)(hz:kvs.length<=1000000)(hq:∀es',DK knd es' (stored kvs k v)->Q () (S.put r d (.dict es'))):V B A S (setItem (.ref d) key v) Q:=λX s o =>
 wpAny_setItem_pairs hk (o.dictOf (St.az h) D) (λh' hd hs=>by
  refine zt (qr hd) λes' D' q=>?_;exact⟨_,o.put h hs q _,hq es' D'⟩) (ae sizeLine_eq (zS hz rfl))
theorem Wg{M:Model}{γ δ:Type}{m:Sem γ}{g:γ->δ}{Q:δ->Shared->Prop}{E:Value->Shared->Prop}{s:Shared}(h:wpAny M A (m >>= λb=>pure (g b)) Q E s):wpAny M A m (λb=>Q (g b)) E s:=λΓ p hΓ=>by
 have' q:_:=h Γ p hΓ;rw[Sem.wp_bind']at q;exact q
theorem Wh{b:Bool}(h:wpAny M A (compareOp .In x c) (λv s'=>v = .bool b/\Q (.bool (!b)) s') E s):wpAny M A (compareOp .NotIn x c) Q E s:=by
 have' q:wpAny M A (contains c x) (λb' s'=>Value.bool b' = .bool b/\Q (.bool (!b)) s') E s:=Wg h;refine(?_:wpAny M A (contains c x >>= λb'=>pure (.bool (!b'))) Q E s);refine wpAny_bind (wpAny_mono q (λb' s' z=>wpAny_pure ?_) λZZ ZZ e=>e);refine bE z λe z=>?_;injection e with zz1;obtain rfl:=zz1;exact z
theorem XI(h:S.has d (.dict es))(D:DK knd es kvs)(hk:knd.is k key=true)(hq:Q (.bool (!(valueAt kvs k).isSome)) S):V B A S (compareOp .NotIn key (.ref d)) Q:=λX s o =>
 Wh (wpAny_in_of hk (o.cH h) (o.dictOf h D).mapOf ⟨rfl,S,o.toks _,hq⟩)
theorem J0{r:Rg}{key v:Value}{k:K}(h:S.get r d=some (.dict es))(D:DK knd es kvs)(hk:knd.is k key=true)(Wi:(keyPart key).isSome=true)(hv:valueAt kvs k=some v)(hz:kvs.length<=1000000)(hq:∀es',DK knd es' (without kvs k)->Q v (S.put r d (.dict es'))):V B A S (call (.builtin "dict.pop") ([.ref d]++[key])) Q:=λX s o =>
 call_meetsIn F.slot_dict_pop (o.dictOf (St.az h) D).typeIs F.entry_dict_pop (F.args_dict_pop_2 _ _) (meets_dict_pop_there knd d hk [] (.inl rfl) Wi) ⟨_,v,o.dictOf (St.az h) D,ae sizeLine_eq (zS hz rfl),hv,λh' hd hs=>by
  refine zt (qr hd) λes' D' q=>?_;exact⟨_,o.put h hs q _,hq es' D'⟩⟩
theorem XJ{r:Rg}(h:S.get r d=some (.dict es))(D:DK knd es kvs)(hz:kvs.length<=1000000)(hq:Q .none (S.put r d (.dict []))):V B A S (call (.builtin "dict.clear") ([.ref d]++[])) Q:=λX s o =>
 call_meetsIn F.slot_dict_clear (o.dictOf (St.az h) D).typeIs F.entry_dict_clear (F.args_dict_clear_1 _) (meets_dict_clear knd d) ⟨_,o.dictOf (St.az h) D,ae sizeLine_eq (zS hz rfl),λh' hd hs=>by
  refine zt (qr hd) λes' D' q=>?_;obtain rfl:es'=[]:=by
   have' this:_:=D'.2.1.length;exact Lk.mp this
  exact⟨_,o.put h hs q s.toks,hq⟩⟩
end
end
end
section
set_option genSizeOf false
set_option genInjectivity false
open PySem PySem.W PySem.Calls PyProof.Rows
noncomputable def zZ(scope sc:Scope):Scope:={ scope with names:=scope.names.map fun(n,k)=>if (k == .free&&sc.kind == .function&&sc.names.lookup n == some .cell) then(n,.cell) else(n,k) }
noncomputable def j5(env:Env):List (Str × NameKind)->List (Str × Addr)->List (Str × Addr)
 | [],cs=>cs
 | (n,k)::r,cs=>if k == .free then j5 env r ((n,(env.cells.lookup n).getD 0)::cs) else j5 env r cs
theorem Zt{env:Env}:∀(names:List (Str × NameKind)) (cs:List (Str × Addr)) (x:Str) (c:Addr),(x,c)∈j5 env names cs->(x,c)∈cs\/((x,.free)∈names/\c=(env.cells.lookup x).getD 0):=by
 intro zl;induction zl with
 | nil =>
  intro cs x c h;exact .inl h
 | cons zh r ih =>
  obtain⟨n,k⟩:=zh;intro cs x c h;unfold j5 at h;split at h
  ·rename_i q;rcases ih _ x c h with h | ⟨h,e⟩
   ·rcases Kw.mp h with h | h
    ·injection h with zz1 zz2;obtain rfl:=zz1;obtain rfl:=zz2;have' this:k = .free:=by simpa using q
     subst this;exact .inr ⟨.head _,rfl⟩
    ·exact .inl h
   ·exact .inr ⟨.tail _ h,e⟩
  ·rcases ih _ x c h with h | ⟨h,e⟩
   ·exact .inl h
   ·exact .inr ⟨.tail _ h,e⟩
theorem Wj{env:Env}:∀(names:List (Str × NameKind)) (cs:List (Str × Addr)) (x:Str),(∃c,cs.lookup x=some c)\/(x,.free)∈names->∃c,(j5 env names cs).lookup x=some c:=by
 intro zl;induction zl with
 | nil =>
  intro cs x h;rcases h with h | h
  ·exact h
  ·cases h
 | cons zh r ih =>
  obtain⟨n,k⟩:=zh;intro cs x h;unfold j5;by_cases e:x=n
  ·subst e;split
   ·exact ih _ x (.inl ⟨(env.cells.lookup x).getD 0,Mt⟩)
   ·rename_i q;refine ih _ x ?_;rcases h with h | h
    ·exact .inl h
    ·rcases Kw.mp h with h | h
     ·injection h with zz1 zz2;cases zz1;obtain rfl:=zz2;exact absurd rfl q
     ·exact .inr h
  ·have b:(x == n)=false:=by simpa using e
   split
   ·refine ih _ x ?_;rcases h with ⟨c,h⟩ | h
    ·exact .inl ⟨c,ae Lc (ae b h)⟩
    ·rcases Kw.mp h with h | h
     ·injection h with zz1 zz2;obtain rfl:=zz1;obtain rfl:=zz2;exact absurd rfl e
     ·exact .inr h
   ·refine ih _ x ?_;rcases h with h | h
    ·exact .inl h
    ·rcases Kw.mp h with h | h
     ·injection h with zz1 zz2;obtain rfl:=zz1;obtain rfl:=zz2;exact absurd rfl e
     ·exact .inr h
theorem Qg(h:∀x∈scope.names,x.2 = .free->∃c,env.cells.lookup x.1=some c):closureFor scope env=pure (j5 env scope.names []):=by
 have' key:∀(names:List (Str × NameKind)) (cs:List (Str × Addr)),(∀x∈names,x.2 = .free->∃c,env.cells.lookup x.1=some c)->
   (forIn names cs (fun(x:Str × NameKind) (cs:List (Str × Addr))=>(do
    if x.2 == .free then
     let c <-cellOf env x.1
     pure (ForInStep.yield ((x.1,c)::cs))
    else pure (ForInStep.yield cs):Sem (ForInStep (List (Str × Addr))))))=pure (j5 env names cs):=by
  intro names;induction names with
  | nil=>intro cs _;rfl
  | cons x r ih =>
   intro cs h;obtain⟨n,k⟩:=x;rw[List.forIn_cons];unfold j5;by_cases q:(k == NameKind.free)=true
   ·have' q':k = .free:=by simpa using q
    refine aB (h (n,k) (.head _) q') λc hc=>?_;dsimp only at hc;refine ae q ?_;refine ae (if_pos rfl) ?_;unfold cellOf;rw[hc,pure_bind,Option.getD_some];exact ih _ λy hy=>h y (.tail _ hy)
   ·simp only[q,pure_bind];exact ih _ λy hy=>h y (.tail _ hy)
 have' this:_:=key scope.names [] h;unfold closureFor;rw[bind_pure];exact this
noncomputable def yG(scope sc:Scope):Bool:=(scope.kind == .function)&&decide ((scope.names.map (·.1)).Nodup)&&scope.names.all λx=>x.2 != .cell&&(x.2 != .free||sc.names.lookup x.1 == some .cell)
noncomputable def Je(scope:Scope)(vs:Vs):Vs->Prop
 | []=>True
 | (x,v)::r=>scope.names.lookup x≠some .local/\zo vs x=some v/\Je scope vs r
theorem Je.get:∀{caps:Vs},Je scope vs caps->∀x v,zo caps x=some v->scope.names.lookup x≠some .local/\zo vs x=some v:=by
 intro zl;induction zl with
 | nil =>
  intro _ x v h;injection h
 | cons zh r ih =>
  obtain⟨y,u⟩:=zh;intro Wk x v h;obtain⟨a,b,c⟩:=Wk;unfold zo at h;rw[List.lookup_cons]at h;by_cases e:x=y
  ·subst e;simp at h;subst h;exact⟨a,b⟩
  ·have' q:(x == y)=false:=by simpa using e
   rw[q]at h;exact ih c x v h
theorem xO{sc:Scope}{x:Str}:∀{names:List (Str × NameKind)},(names.map fun(n,k)=>if (k == NameKind.free&&sc.kind == .function&&sc.names.lookup n == some .cell) then(n,NameKind.cell) else(n,k)).lookup x =
  (names.lookup x).map λk=>if (k == NameKind.free&&sc.kind == .function&&sc.names.lookup x == some .cell) then NameKind.cell else k:=by
 intro zl;induction zl with
 | nil =>
  exact rfl
 | cons zh r ih =>
  obtain⟨n,k⟩:=zh;have ih:=ih;refine ae M7 ?_;refine(?_:List.lookup x ((if (k == NameKind.free&&sc.kind == .function&&sc.names.lookup n == some .cell)=true then(n,NameKind.cell) else(n,k))::_)=_);by_cases e:x=n
  ·subst e;simp only[List.lookup_cons,beq_self_eq_true,Option.map_some];split
   ·exact Mt
   ·exact Mt
  ·have b:(x == n)=false:=by simpa using e
   split
   ·exact ae Lc (ae Lc (ae b ih))
   ·exact ae Lc (ae Lc (ae b ih))
section
variable {α β:Type} {B:Bs} {A:Around} {own:Bool} {env:Env} {vs:Vs} {S:St}
theorem J1{sc scope:Scope}{C:Addr}(en:En env sc)(h:yG scope sc=true):En (compEnvC scope (j5 env scope.names []) C env) (zZ scope sc):=by
 simp only[yG,Bool.and_eq_true,beq_iff_eq,decide_eq_true_eq,List.all_eq_true]at h;obtain⟨⟨hk,hn⟩,ha⟩:=h;have lk:∀x,(zZ scope sc).names.lookup x=(scope.names.lookup x).map λk=>if (k == NameKind.free&&sc.kind == .function&&sc.names.lookup x == some .cell) then NameKind.cell else k:=λx=>xO
 refine⟨?_,hk,en.3,en.4,λx hx=>?_,λx c hx e=>?_⟩
 ·refine(?_:relabel scope env=zZ scope sc);unfold relabel zZ;simp only[en.kindOf,en.1]
 ·refine Wj scope.names [] x (.inr ?_);rw[lk]at hx;cases q:scope.names.lookup x with
  | none=>rw[q]at hx;injection hx
  | some k =>
   have m:=mem_of_lookup q;have' this:_:=ha _ m;simp only[bne_iff_ne,ne_eq]at this;rw[q]at hx;simp only[Option.map_some,Option.some.injEq]at hx;split at hx
   ·rename_i r;have' this:k = .free:=by
     simp only[Bool.and_eq_true,beq_iff_eq]at r;exact r.1.1
    exact this▸m
   ·exact absurd hx this.1
 ·rcases Zt scope.names [] x c (mem_of_lookup hx) with q | ⟨q,_⟩
  ·cases q
  ·rw[lk,j1 hn q]at e;simp only[Option.map_some,Option.some.injEq]at e;split at e
   ·injection e
   ·injection e
theorem Wl{sc scope:Scope}{X:Addr->Option Obj}{s s':Shared}{caps:Vs}{C:Addr}{m:Str->Option Value}(en:En env sc)(h:yG scope sc=true)(hc:Je scope vs caps)(o:Ok B S X s)(f:zA own env vs S X s)(hn:s'.heap.Ns C m)(hX:jF own env X s.heap C=none)(hS:S.no C)(keep:∀a ob,s.heap.get? a=some ob->s'.heap.get? a=some ob):
  zA false (compEnvC scope (j5 env scope.names []) C env) caps S (jF own env X s.heap) s':=by
 have bq:=J1 (C:=C) en h;simp only[yG,Bool.and_eq_true,beq_iff_eq,decide_eq_true_eq,List.all_eq_true]at h;obtain⟨⟨hk,nd⟩,ha⟩:=h;have outer:∀x c,(x,c)∈j5 env scope.names []->env.cells.lookup x=some c:=λx c hx=>by
  rcases Zt scope.names [] x c hx with q | ⟨q,e⟩
  ·cases q
  ·have' this:_:=(ha _ q);simp only[bne_self_eq_false,Bool.false_or,beq_iff_eq,Bool.and_eq_true]at this;refine aB (en.5 x this.2) λc' lP=>?_;rw[lP]at e;exact ae lP (ae e rfl)
 refine⟨⟨m,hn,λx v hx hv=>?_⟩,λx c hx=>?_,hX,hS,λx c hx=>?_,λe=>(nomatch e),λe=>(nomatch e)⟩
 ·exfalso
  have' q:_:=(hc.get x v hv).1;rw[bq.kindOf]at hx;have lk:(zZ scope sc).names.lookup x=(scope.names.lookup x).map λk=>if (k == NameKind.free&&sc.kind == .function&&sc.names.lookup x == some .cell) then NameKind.cell else k:=xO
  rw[lk]at hx;cases r:scope.names.lookup x with
  | none=>rw[r]at hx;injection hx
  | some k =>
   rw[r]at hx q;simp only[Option.map_some,Option.some.injEq]at hx;split at hx
   ·injection hx
   ·exact q (ae hx rfl)
 ·have' dg:_:=outer x c (mem_of_lookup hx);refine zV (f.2 x c dg) λv₀ fK cg=>?_;obtain⟨oc,fL,hd⟩:=fK;exact⟨v₀,⟨oc,keep _ _ fL,hd⟩,λv hv=>cg v (hc.get x v hv).2⟩
 ·have dg:=outer x c hx;refine ae (if_neg (by decide)) ?_;refine zV (f.2 x c dg) λv₀ iu cg=>?_;obtain⟨oc,fL,hd⟩:=iu;have q:=f.5 x c (mem_of_lookup dg);cases ow:own with
  | true =>
   rw[if_pos ow]at q;exact⟨oc,(qN q.1 (mem_of_lookup dg) rfl).trans fL⟩
  | false =>
   rw[if_neg (by refine ae ow ?_;decide)]at q;refine aB q λob q=>?_;exact⟨ob,yx q⟩
end
end
section
set_option genSizeOf false
set_option genInjectivity false
open PySem PySem.W PySem.Calls PyProof.Rows
noncomputable def Zu(target iter:Expr)(ifs:List Expr)(it:Value)(add:Sem Unit)(c:Code)(env:Env):Sem Fin:=do
 standAt iter.pos
 match <-pyNext it with
 | none=>pure (.done .next)
 | some v =>
  letOwnedTupleGo target it v
  assign target env v
  let mut ok:=true
  for c in ifs do
   if ok then ok <-isTrue c env (eval c env)
  if ok then add
  again c
noncomputable def wy(elt:Expr)(acc:Value)(env:Env):Sem Unit:=do let _ <-call (.builtin "list.append") [acc,<-eval elt env]
noncomputable def JN(kx vx:Expr)(D:Addr)(env:Env):Sem Unit:=do
 let kv <-eval kx env
 let vv <-holding [kv] (eval vx env)
 standAt { kx.pos with endLine:=vx.pos.endLine,endCol:=vx.pos.endCol }
 holding [kv,vv] (dictSet D kv vv)
theorem Wm(elt target iter:Expr)(ifs:List Expr)(scope:Scope)(pos:Pos)(it acc:Value)(env:Env):
  compTurn (.ListComp elt [⟨target,iter,ifs,0⟩] scope pos) 0 it acc env=Zu target iter ifs it (wy elt acc env) (.compLoop (.ListComp elt [⟨target,iter,ifs,0⟩] scope pos) 0 it acc env) env:=by rfl
theorem Wn(kx vx target iter:Expr)(ifs:List Expr)(scope:Scope)(pos:Pos)(it:Value)(D:Addr)(env:Env):
  compTurn (.DictComp kx vx [⟨target,iter,ifs,0⟩] scope pos) 0 it (.ref D) env=Zu target iter ifs it (JN kx vx D env) (.compLoop (.DictComp kx vx [⟨target,iter,ifs,0⟩] scope pos) 0 it (.ref D) env) env:=by rfl
noncomputable def Vs.Sub(vs vs':Vs):Prop:=∀x v,zo vs x=some v->zo vs' x=some v
theorem Vs.Sub.refl(vs:Vs):Vs.Sub vs vs:=λZZ ZZ h=>h
theorem Vs.Sub.set(h:zo vs x=none):Vs.Sub vs (zi vs x v):=λy u q=>by
 rw[zw];split
 ·rename_i e;rw[e,h]at q;injection q
 ·exact q
noncomputable def jA(B:Bs)(A:Around)(own:Bool)(env:Env)(ifs:List Expr)(vs:Vs)(S:St)(Q:Bool->Vs->St->Prop):Prop :=
 match ifs with
 | []=>Q true vs S
 | [c]=>W B A own env vs S (isTrue c env (eval c env)) Q
 | _=>False
section
variable {α β γ:Type} {B:Bs} {A:Around} {own:Bool} {env:Env} {vs:Vs} {S:St}
theorem jA.run{ifs:List Expr}{Q:Bool->Vs->St->Prop}(h:jA B A own env ifs vs S Q){X:Addr->Option Obj}{s:Shared}(o:Ok B S X s)(f:zA own env vs S X s):
  wpAny (model B.prog B.w) A (forIn ifs true λc r=>if r=true then do let ok <-isTrue c env (eval c env);pure (ForInStep.yield ok) else pure (ForInStep.yield r)) (Po B own env X Q) cf s:=by
 match ifs,h with
 | [],h=>exact wpAny_tests_nil ⟨vs,S,o,f,h⟩
 | [c],h=>exact wpAny_tests_one (h X s o f)
theorem zE.cons{D:Addr}{T:List Addr}{X:Addr->Option Obj}(h:zE [D] env S X)(h':zE T env S X):zE (D::T) env S X:=by
 refine⟨λa m=>?_,λa m=>?_,λa m=>?_,λa m=>?_⟩
 ·rcases Kw.mp m with e | m
  ·exact h.1 a (e▸.head _)
  ·exact h'.1 a m
 ·rcases Kw.mp m with e | m
  ·exact h.2 a (e▸.head _)
  ·exact h'.2 a m
 ·rcases Kw.mp m with e | m
  ·exact h.3 a (e▸.head _)
  ·exact h'.3 a m
 ·rcases Kw.mp m with e | m
  ·exact h.4 a (e▸.head _)
  ·exact h'.4 a m
inductive IV {γ:Type} (B:Bs) (own:Bool) (env:Env) (X:Addr->Option Obj) (T:List Addr) (D:Addr) (src:Src B) (caps:Vs) (dh:Heap->Addr->γ->Prop) (Inv:Nat->St->γ->Prop) (n:Nat) (s:Shared):Prop
 | mk (i:Nat) (S:St) (l:γ) (hi:i<=src.n) (hn:n=src.n - i) (o:Ok B S X s) (f:zA own env caps S X s) (hS:zE T env S X) (hD:zE [D] env S X) (hit:src.It s.heap T i) (ha:dh s.heap D l) (hI:Inv i S l)
theorem Wo(src:Src B){target iter:Expr}{ifs:List Expr}{Bind:Nat->Vs->St->Vs->St->Prop}{c:Code}{T:List Addr}{D:Addr}{add:Sem Unit}{X:Addr->Option Obj}{caps:Vs}(dh:Heap->Addr->γ->Prop)(hq:c.quiet=true)(hc:∀{R:Fin->Shared->Prop} {RE:Value->Shared->Prop} {s:Shared},wpAny (model B.prog B.w) A (Zu target iter ifs (.ref (T.headD 0)) add c env) R cf s->wpAny (model B.prog B.w) (A.under c) ((model B.prog B.w).den c) R RE s)(pU:∀{h h':Heap} {l:γ},dh h D l->h'.get? D=h.get? D->dh h' D l)(pV:∀{h:Heap} {l:γ},dh h D l->∃o,h.get? D=some o)(hd:gG B A own env target src Bind)(Inv:Nat->St->γ->Prop)(hh:A.handled=none)(pW:D∉T)(need:∀i S l,Inv i S l->src.need S)(sub:∀i S vs' S',Bind i caps S vs' S'->caps.Sub vs')(step:∀i S l vs' S',i<src.n->Inv i S l->Bind i caps S vs' S'->jA B A own env ifs vs' S' (λok aI S₂=>if ok=true then
    ∀X s,Ok B S₂ X s->zA own env aI S₂ X s->zE [D] env S₂ X->dh s.heap D l->wpAny (model B.prog B.w) A add (λZZ s'=>∃aD S₃ l',Ok B S₃ X s'/\zA own env aD S₃ X s'/\vs'.Sub aD/\dh s'.heap D l'/\Inv (i+1) S₃ l'/\zE [D] env S₃ X) cf s
   else vs'.Sub aI/\Inv (i+1) S₂ l)){R:Result->Shared->Prop}(hR:∀S l s',Ok B S X s'->zA own env caps S X s'->zE [D] env S X->dh s'.heap D l->Inv src.n S l->R (.ok .next) s'){i:Nat}{s:Shared}{l:γ}(hi:i<=src.n)(o:Ok B S X s)(f:zA own env caps S X s)(hS:zE T env S X)(hD:zE [D] env S X)(hit:src.It s.heap T i)(ha:dh s.heap D l)(hI:Inv i S l):
  codeAny (model B.prog B.w) A c R s:=by
 have mD:D∈[D]:=.head _;refine codeAny_loop hq (IV B own env X T D src caps dh Inv) (λn s hI=>hc ?_) (src.n - i) ⟨i,S,l,hi,rfl,o,f,hS,hD,hit,ha,hI⟩;obtain⟨i,S,l,hi,rfl,o,f,hS,hD,hit,ha,hI⟩:=hI;refine wpAny_bind (wpAny_standAt (wpAny_bind ?_));by_cases aC:i<src.n
 ·have' lQ:zE T env S (XH [D] X s.heap):=⟨λa m=>by
   refine ae (qy λe=>pW (by rw[List.mem_singleton.mp e]at m;exact m)) ?_;exact hS.1 a m,hS.2,hS.3,hS.4⟩
  refine wpAny_mono (hd _ s caps S T i aC (o.hide hD.2) (f.hide hD _) lQ hit (need _ _ _ hI)) (λr s₁ q=>?_) λZZ ZZ e=>e.elim;obtain⟨v,rfl,q⟩:=q;refine wpAny_bind (wpAny_mono q (λZZ s₂ q=>wpAny_bind (wpAny_mono q (λZZ s₃ q=>?_) λZZ ZZ e=>e)) λZZ ZZ e=>e);obtain⟨vs',S',k₁,f₁,dp,it₁,bd⟩:=q;refine bE (hD.aE (λa m=>ae (Kf.mp m) (pV ha)) k₁) λcB fM=>?_;replace k₁:=o.aE k₁;replace f₁:=f₁.aE hD;have' lQ:zE T env S' X:=⟨hS.1,dp.2,hS.3,hS.4⟩;have ki:=pU ha (fM D mD);have' Wq:_:=src.there it₁;have Bm:zE (D::T) env S' X:=cB.cons lQ;have' C3:∀a∈D::T,∃o,s₃.heap.get? a=some o:=λa m=>by
   rcases Kw.mp m with e | m
   ·exact ae e (pV ki)
   ·exact Wq a m
  refine wpAny_bind (wpAny_mono ((step i S l vs' S' aC hI bd).run (k₁.hide Bm.2) (f₁.hide Bm _)) (λok s₄ q=>?_) λZZ ZZ e=>e);obtain⟨aI,S₂,k₂,f₂,q⟩:=q;refine bE (Bm.aE C3 k₂) λkj e₂=>?_;replace k₂:=k₁.aE k₂;replace f₂:=f₂.aE Bm;have oX:=pU ki (e₂ D (.head _));have it₂:=src.keep it₁ λa m=>e₂ a (.tail _ m);have fN:zE T env S₂ X:=⟨hS.1,λa m=>kj.2 a (.tail _ m),hS.3,hS.4⟩;have dO:zE [D] env S₂ X:=⟨hD.1,λa m=>kj.2 a (ae (Kf.mp m) (.head _)),hD.3,hD.4⟩;have again:∀(s₅:Shared) aD S₃ l',Ok B S₃ X s₅->zA own env aD S₃ X s₅->vs'.Sub aD->zE T env S₃ X->zE [D] env S₃ X->src.It s₅.heap T (i+1)->dh s₅.heap D l'->Inv (i+1) S₃ l'->
    wpAny (model B.prog B.w) A (again c) (λfin s'=>match fin with | .done f=>R (.ok f) s' | .again c'=>c'=c/\∃m,m<src.n - i/\IV B own env X T D src caps dh Inv m s') cf s₅:=λs₅ aD S₃ l' a1 a2 a3 a4 a5 a6 a7 a8 =>
   wpAny_pure ⟨rfl,src.n - (i+1),by exact CA aC hi,i+1,S₃,l',aC,rfl,a1,a2.mono λx v h=>a3 x v (sub _ _ _ _ bd x v h),a4,a5,a6,a7,a8⟩
  cases ok with
  | false =>
   simp only[Bool.false_eq_true,if_false]at q |-;exact again s₄ aI S₂ l k₂ f₂ q.1 fN dO it₂ oX q.2
  | true =>
   simp only[if_true]at q |-;have' kl:zE [D] env S₂ (XH T X s₄.heap):=⟨λa m=>by
    refine ae (Kf.mp m) ?_;refine ae (qy pW) ?_;exact hD.1 D mD,dO.2,dO.3,dO.4⟩
   refine wpAny_bind (wpAny_mono (q _ s₄ (k₂.hide fN.2) (f₂.hide fN _) kl oX) (λZZ s₅ q=>?_) λZZ ZZ e=>e);refine yw q λaD S₃ l' k₃ f₃ sb um lR uo=>?_;refine bE (fN.aE (src.there it₂) k₃) λuq e₃=>?_;exact again s₅ aD S₃ l' (k₂.aE k₃) (f₃.aE fN) sb uq ⟨hD.1,uo.2,hD.3,hD.4⟩ (src.keep it₂ e₃) um lR
 ·have' e:i=src.n:=CB hi aC;subst e;refine wpAny_mono (src.stop hh o (need _ _ _ hI) hit (Q:=λr s₁=>r=none/\Ok B S X s₁/\zA own env caps S X s₁/\dh s₁.heap D l) λh' hs=>⟨rfl,o.bx hS.1 hS.2 hs s.toks,f.bx hS hs s.toks,pU ha ?_⟩) (λr s₁ hr=>?_) λZZ ZZ e=>e.elim
  ·refine aB (pV ha) λod IW=>?_;exact(hs D od pW IW).trans IW.symm
  ·obtain⟨rfl,k₁,f₁,ki⟩:=hr;exact wpAny_pure (hR _ _ _ k₁ f₁ hD ki hI)
end
end
section
set_option genSizeOf false
set_option genInjectivity false
open PySem PySem.W PySem.Calls PyProof.Rows
section
variable {α β γ:Type} {B:Bs} {A:Around} {own:Bool} {env:Env} {vs:Vs} {S:St}
theorem Xa(h:yG scope sc=true):scope.kind = .function/\(∀x∈scope.names,x.2≠.cell)/\(∀x∈scope.names,x.2 = .local->scope.names.lookup x.1=some .local)/\∀x∈scope.names,x.2 = .free->sc.names.lookup x.1=some .cell:=by
 simp only[yG,Bool.and_eq_true,beq_iff_eq,decide_eq_true_eq,List.all_eq_true]at h;obtain⟨⟨hk,nd⟩,ha⟩:=h;refine⟨hk,λx hx e=>?_,λx hx e=>?_,λx hx e=>?_⟩
 ·have:=(ha x hx).1;rw[e]at this;injection this
 ·exact j1 nd (e▸hx:(x.1,NameKind.local)∈scope.names)
 ·have' this:_:=(ha x hx).2;rw[e]at this;simpa using this
theorem St.eU{r:Rg}{a b:Addr}{c:jn}(h:S.no a)(n:a≠b):(S.put r b c).no a:=St.cK λc' q=>by
 refine aB q λr' q=>?_;rcases St.bQ q with ⟨_,e,_⟩ | q
 ·exact n e
 ·rw[h r']at q;injection q
theorem Wr{src:Src B}{sc scope:Scope}{X:Addr->Option Obj}{s:Shared}{T:List Addr}{nV:Obj}{Q:Env->Shared->Prop}(Ws:nV.isFreed=false)(en:En env sc)(cx:yG scope sc=true)(cN:Je scope vs caps)(o:Ok B S X s)(f:zA own env vs S X s)(st:zE T env S X)(it:src.It s.heap T 0)(h:∀C s',C=s.heap.objs.size+1->En (compEnvC scope (j5 env scope.names []) C env) (zZ scope sc)->s.heap.objs.size∉T->Ok B S (jF own env X s.heap) s'->zA false (compEnvC scope (j5 env scope.names []) C env) caps S (jF own env X s.heap) s'->
   zE T (compEnvC scope (j5 env scope.names []) C env) S (jF own env X s.heap)->zE [s.heap.objs.size] (compEnvC scope (j5 env scope.names []) C env) S (jF own env X s.heap)->src.It s'.heap T 0->s'.heap.get? s.heap.objs.size=some nV->
   Q (newEnv scope C env.globals (j5 env scope.names []) env.qual none .none (some env) builtinsNs) s'):
  wpAny (model B.prog B.w) A (newFunctionEnv scope env.globals (j5 env scope.names []) [] env.qual none .none (some env)) Q cf { s with heap:=s.heap.push nV }:=by
 refine Hn (Xa cx) λhk bI iy lS=>?_;refine wpAny_newFunctionEnv bI (by intro y hy;simp at hy) (λh₁ iz pX=>?_) hk;dsimp only at iz pX |-;have hC:(s.heap.push nV).objs.size=s.heap.objs.size+1:=Vu ..;rw[hC]at iz pX |-;have keep:∀a ob,s.heap.get? a=some ob->h₁.get? a=some ob:=λa ob e=>by
  have' lt:_:=La e;refine pX.extBut a ob (K6 (Lz lt)) (Ke _ (Ke _ e))
 have' hX:jF own env X s.heap (s.heap.objs.size+1)=none:=by
  have' a1:_:=o.above (Lq s.heap.objs.size);unfold jF;refine ae a1.2 ?_;dsimp only;rw[if_neg];rintro(e | ⟨e,x,hx⟩)
  ·exact Ly (Lz f.Bl) e
  ·exact L0 _ (Mf (f.uj o x _ hx) (Ln _))
 have' Wt:jF own env X s.heap s.heap.objs.size=none:=by
  have' a1:_:=o.above (Kz s.heap.objs.size);unfold jF;refine ae a1.2 ?_;dsimp only;rw[if_neg];rintro(e | ⟨e,x,hx⟩)
  ·exact Ly f.Bl e
  ·exact L0 _ (f.uj o x _ hx)
 have' pW:s.heap.objs.size∉T:=λm=>by
  refine aB (src.there it _ m) λob e=>?_;exact L0 _ (La e)
 have' fr:zA false (compEnvC scope (j5 env scope.names []) (s.heap.objs.size+1) env) caps S (jF own env X s.heap) { s with heap:=h₁,toks:=s.toks+0 } :=
  Wl en cx cN o f iz hX (o.above (Lq _)).1 keep
 have IX:∀x c,(x,c)∈j5 env scope.names []->env.cells.lookup x=some c:=λx c hx=>by
  rcases Zt scope.names [] x c hx with q | ⟨q,e⟩
  ·cases q
  ·refine aB (en.5 x (lS _ q rfl)) λc' lP=>?_;rw[lP]at e;refine ae lP ?_;refine ae e ?_;rfl
 refine h _ _ rfl (J1 en cx) pW ((o.around f).grown keep _) fr ⟨λa m=>?_,st.2,λa m=>?_,λa m x c hx=>?_⟩ ⟨λa m=>?_,λa m=>?_,λa m=>?_,λa m x c hx=>?_⟩ (src.keep it λa m=>?_) ?_
 ·unfold jF;refine ae (st.1 a m) ?_;dsimp only;rw[if_neg];rintro(e | ⟨e,x,hx⟩)
  ·exact st.3 a m e
  ·exact st.4 a m x a hx rfl
 ·refine aB (src.there it a m) λob e=>?_;have' this:_:=La e;exact K6 (Lz this)
 ·exact st.4 a m x c (mem_of_lookup (IX x c hx))
 ·exact ae (Kf.mp m) Wt
 ·exact ae (Kf.mp m) ((o.above (Kz _)).1)
 ·exact ae (Kf.mp m) (K6 (Ln _))
 ·refine ae (Kf.mp m) ?_;exact K6 (f.uj o x c (mem_of_lookup (IX x c hx)))
 ·refine aB (src.there it a m) λob e=>?_;exact ae e (keep a ob e)
 ·exact pX.extBut _ _ (K6 (Ln _)) (Ke _ (Kl _ Ws))
theorem Wu(hL:env2.locals=C)(lh:D≠C)(o:Ok B S X s)(f:zA own env vs S X s)(hD:D=s.heap.objs.size)(o':Ok B S' (jF own env X s.heap) s')(f':zA false env2 caps S' (jF own env X s.heap) s')(sD:zE [D] env2 S' (jF own env X s.heap))(hc:∃ob,s'.heap.get? D=some ob/\c.Fits ob)(hs:Heap.SameBut C s'.heap h')(t:Nat):
  Ok B (S'.put r D c) X { s' with heap:=h',toks:=t }/\zA own env vs (S'.put r D c) X { s' with heap:=h',toks:=t }:=by
 subst hL;have' hX:_:=f'.3;have' hS:_:=f'.4;have ext:yg [env2.locals] s'.heap h':=yg.of (.head _) hs.extBut;have' o₁:Ok B S' (jF own env X s.heap) { s' with heap:=h',toks:=t }:=o'.bx (T:=[env2.locals]) (λa m=>ae (Kf.mp m) hX) (λa m=>ae (Kf.mp m) hS) ext t;refine zt hc λob e1 e2=>?_;have o₂:Ok B (S'.put r D c) (jF own env X s.heap) { s' with heap:=h',toks:=t }:=o₁.new (r:=r) (c':=c) (sD.2 D (.head _)) ⟨sD.1 D (.head _),?_⟩ (λb ob q ZZ=>q) ⟨ob,ext D ob (λm=>lh (Kf.mp m)) e1,e2⟩ _ rfl rfl rfl
 ·exact⟨o₂.dJ o,f.back o o₂⟩
 ·exact ae hD o.lt.2.2
structure C4 (B:Bs) (γ:Type) where
 obj:Obj
 nil:γ
 P:Heap->Addr->γ->Prop
 free:obj.isFreed=false
 keep:∀{h h':Heap} {D:Addr} {l:γ},P h D l->h'.get? D=h.get? D->P h' D l
 start:∀{h:Heap} {D:Addr},h.get? D=some obj->P h D nil
theorem Ok.cT{T:List Addr}{X:Addr->Option Obj}{s:Shared}(k:Ok B S X s)(f:zA own env vs S X s)(st:zE T env S X){h':Heap}(hs:yg T s.heap h')(t:Nat):Ok B S X { s with heap:=h',toks:=t }/\zA own env vs S X { s with heap:=h',toks:=t } :=
 ⟨k.bx st.1 st.2 hs t,f.bx st hs t⟩
noncomputable def wA(B:Bs):C4 B (List Value) where
 obj:=ji [] 0
 nil:=[]
 P:=λh D l=>l.length<=1000000/\∃n,IsL h D l.toArray n
 free:=rfl
 keep:=λzp q=>by refine Hm zp λz n e=>?_;exact⟨z,n,q.trans e⟩
 start:=λe=>⟨Kt _,0,e⟩
theorem Wv{elt target iter ifs scope pos it acc aW}:(Code.compLoop (.ListComp elt [⟨target,iter,ifs,0⟩] scope pos) 0 it acc aW).quiet=true:=rfl
theorem GK{elt:Expr}{D:Addr}{n:Nat}{l:List Value}{Inv:St->List Value->Prop}{vs':Vs}(hl:l.length<n)(hn:n<=1000000)(h:W B A own env vs S (eval elt env) (λy aD S₃=>vs'.Sub aD/\Inv S₃ (l++[y]))):
  ∀X s,Ok B S X s->zA own env vs S X s->zE [D] env S X->(wA B).P s.heap D l->wpAny (model B.prog B.w) A (wy elt (.ref D) env) (λZZ s'=>∃aD S₃ l',Ok B S₃ X s'/\zA own env aD S₃ X s'/\vs'.Sub aD/\(wA B).P s'.heap D l'/\(Inv S₃ l'/\l'.length<=l.length+1)/\zE [D] env S₃ X) cf s:=by
 intro X s o f sD hP;refine Hm hP λhz n' e=>?_;refine wpAny_bind (wpAny_mono (h _ _ (o.hide sD.2) (f.hide sD _)) (λy s₁ q=>?_) λZZ ZZ e=>e);obtain⟨bf,S₁,k₁,f₁,sb,hI⟩:=q;refine bE (sD.aE (λa m=>ae (Kf.mp m) ⟨_,e⟩) k₁) λcB fM=>?_;replace k₁:=o.aE k₁;replace f₁:=f₁.aE sD;have e₁:IsL s₁.heap D l.toArray n':=(fM D (.head _)).trans e;refine wpAny_bind (call_meets F.slot_list_append ⟨_,e₁,rfl⟩ F.entry_list_append (F.args_list_append_2 _ _) (list_append D l.toArray n' y (ae Kd (ae sizeLine_eq (zS hz rfl)))) ⟨e₁,wpAny_pure ?_⟩);have' ext:yg [D] s₁.heap (s₁.heap.update D (Obj.mapSeq λx=>x.push y)):=yg.of (.head _) (Heap.SameBut.update ..).extBut;refine bE (k₁.cT f₁ cB ext s₁.toks) λk₂ f₂=>?_;refine⟨bf,S₁,l++[y],k₂,f₂,sb,⟨ae Ki (ae Kj (OB hl hz hn)),?_⟩,⟨hI,ae Ki (ae Kj (Kz _))⟩,cB⟩;refine⟨n'+1,?_⟩;have' this:_:=Le (Obj.mapSeq λx=>x.push y) e₁ rfl;refine Eq.trans this ?_;unfold Obj.mapSeq;dsimp only;simp
noncomputable def wB(B:Bs)(A:Around)(Ww:Scope)(src:Src B)(ifs:List Expr)(caps:Vs)(Bind:Nat->Vs->St->Vs->St->Prop)(Inv:Nat->St->γ->Prop)(body:Env->(γ->Nat->Vs->Vs->St->Prop)):Prop :=
 ∀env2,En env2 Ww->∀i S l vs' S',i<src.n->Inv i S l->Bind i caps S vs' S'->jA B A false env2 ifs vs' S' (λok aI S₂=>if ok=true then body env2 l i vs' aI S₂ else vs'.Sub aI/\Inv (i+1) S₂ l)
theorem Wx{elt target iter ifs scope pos}(T:List Addr)(D:Addr)(aW:Env){R:Result->Shared->Prop}{s:Shared}(h:codeAny (model B.prog B.w) A (.compLoop (.ListComp elt [⟨target,iter,ifs,0⟩] scope pos) 0 (.ref (T.headD 0)) (.ref D) aW) R s)(hp:∀{Q E:Value->Shared->Prop},Q (.ref (T.headD 0)) s->wpAny (model B.prog B.w) A (pyIter (.ref (T.headD 0))) Q E s):codeAny (model B.prog B.w) A (.compStart (.ListComp elt [⟨target,iter,ifs,0⟩] scope pos) 0 (.ref (T.headD 0)) (.ref D) aW) R s :=
 codeAny_compStart_list h (hp h)
theorem Qh{elt target iter ifs scope pos}(T:List Addr)(D:Addr)(aW:Env){R:Fin->Shared->Prop}{RE:Value->Shared->Prop}{s:Shared}(h:wpAny (model B.prog B.w) A (Zu target iter ifs (.ref (T.headD 0)) (wy elt (.ref D) aW) (.compLoop (.ListComp elt [⟨target,iter,ifs,0⟩] scope pos) 0 (.ref (T.headD 0)) (.ref D) aW) aW) R cf s):
  wpAny (model B.prog B.w) (A.under (.compLoop (.ListComp elt [⟨target,iter,ifs,0⟩] scope pos) 0 (.ref (T.headD 0)) (.ref D) aW)) ((model B.prog B.w).den (.compLoop (.ListComp elt [⟨target,iter,ifs,0⟩] scope pos) 0 (.ref (T.headD 0)) (.ref D) aW)) R RE s:=by
 refine(?_:wpAny _ A ((compTurn (.ListComp elt [⟨target,iter,ifs,0⟩] scope pos) 0 (.ref (T.headD 0)) (.ref D) aW).onRaise (λx=>do noteFrame x aW;theTreesLotGoes x)) _ _ s);refine wpAny_noted ?_;rw[Wm];exact wpAny_mono h (λZZ ZZ q=>q) λZZ ZZ e=>e.elim
theorem g9{sc:Scope}(en:En env sc){elt gens scope pos y py}{line:Nat}:swapsWith (.ListComp elt gens scope pos) (some (.Name y py)) line env=pure (sc.names.lookup y == some .local&&py.line == pos.line && !(scope.names.any fun(n,k)=>n == y&&(k == .local||k == .cell))):=by
 have' h1:env.kindOf y=sc.names.lookup y:=en.kindOf y;have' h2:env.blockKind = .function:=by
  unfold Env.blockKind;refine ae en.fn ?_;rfl
 unfold swapsWith;dsimp only;refine ae h1 ?_;refine ae h2 ?_;rfl
theorem Wy{sc:Scope}(en:En env sc){kx vx gens scope pos y py}{line:Nat}:swapsWith (.DictComp kx vx gens scope pos) (some (.Name y py)) line env=pure (sc.names.lookup y == some .local&&py.line == pos.line && !(scope.names.any fun(n,k)=>n == y&&(k == .local||k == .cell))):=by
 have' h1:env.kindOf y=sc.names.lookup y:=en.kindOf y;have' h2:env.blockKind = .function:=by
  unfold Env.blockKind;refine ae en.fn ?_;rfl
 unfold swapsWith;dsimp only;refine ae h1 ?_;refine ae h2 ?_;rfl
theorem Xb(en:En env sc)(hk:ym (sc.names.lookup y)=true)(ho:own=true\/sc.names.lookup y=some .local)(ok:∀h' t,Heap.SameBut C s.heap h'->Ok B (S.put r D c) X { s with heap:=h',toks:=t }/\zA own env vs (S.put r D c) X { s with heap:=h',toks:=t })(st:zE [C] env (S.put r D c) X)(hn:∃m,s.heap.Ns C m)(h:Q (zi vs y (.ref D)) (S.put r D c)):
  compPost (model B.prog B.w) A cf (some (assign (.Name y py) env)) (λZZ=>Pw B own env X Q) (.ref D) C (.ok .next) s:=by
 refine bE (ok s.heap s.toks (Heap.SameBut.refl ..)) λk f=>?_;obtain⟨m,⟨ol,es,ep,lL,hr⟩⟩:=hn;refine(?_:wpAny (model B.prog B.w) A (assign (.Name y py) env (.ref D)) _ cf s);refine wpAny_mono (z8 (Q:=λZZ vs' S'=>vs'=zi vs y (.ref D)/\S'=S.put r D c) en hk ho ⟨rfl,rfl⟩ _ _ (k.hide st.2) (f.hide st s.heap)) (λZZ s₂ q=>?_) λZZ ZZ e=>e;obtain⟨vs',S',k₂,f₂,rfl,rfl⟩:=q;refine bE (st.aE (s:=s) (λa m=>ae (Kf.mp m) ⟨_,lL⟩) k₂) λkj e₂=>?_;refine⟨m,⟨ol,es,ep,(e₂ C (.head _)).trans lL,hr⟩,λh' ix=>?_⟩;have' ext:yg [C] s₂.heap h':=yg.of (.head _) ix.extBut;refine bE (Ok.cT (k.aE k₂) (f₂.aE st) kj ext s₂.toks) λa b=>?_;exact⟨_,_,a,b,h⟩
end
end
section
set_option genSizeOf false
set_option genInjectivity false
open PySem PySem.W PySem.Calls PyProof.Rows
section
variable {α β γ:Type} {B:Bs} {A:Around} {own:Bool} {env:Env} {vs:Vs} {S:St}
/-! statements -/
theorem Wz(en:En env sc)(h:W B A own env vs S (eval e env) (λZZ=>Q .next))(hs:swapsWith e none pos.line env=pure false:=by rfl):W B A own env vs S (exec (.Expr e pos) env) Q:=λX s o f =>
 wpAny_Expr_any (h X s o f) (by unfold interactive;refine ae en.fn ?_;rfl) hs
noncomputable def qk(B:Bs)(A:Around)(own:Bool)(env:Env):List (Value->Sem Unit)->List Value->Vs->St->(Vs->St->Prop)->Prop
 | t::ts,x::xs,vs,S,Q=>W B A own env vs S (t x) (λ_ vs S=>qk B A own env ts xs vs S Q)
 | [],_,vs,S,Q=>Q vs S
 | _::_,[],vs,S,Q=>Q vs S
theorem gw:∀{ts:List (Value->Sem Unit)} {xs:List Value} {vs:Vs} {S:St},qk B A own env ts xs vs S (Q ())->W B A own env vs S (assignInOrder ts xs) Q
 | [],xs,vs,S,h=>λX s o f=>by
  exact wpAny_pure ⟨vs,S,o,f,h⟩
 | _::_,[],vs,S,h=>λX s o f=>by
  exact wpAny_pure ⟨vs,S,o,f,h⟩
 | t::ts,x::xs,vs,S,h=>λX s o f=>by
  refine wpAny_bind (wpAny_holding (wpAny_mono (h X s o f) (λZZ s₁ q=>?_) λZZ ZZ e=>e));obtain⟨bf,S₁,k₁,f₁,q⟩:=q;exact gw q X s₁ k₁ f₁
theorem Ok.scratch{X:Addr->Option Obj}{s:Shared}(o:Ok B S X s){h':Heap}(hs:Heap.ExtBut s.heap.objs.size s.heap h')(t:Nat):Ok B S X { s with heap:=h',toks:=t } :=
 o.grown (λb ob e=>hs b ob (K6 (La e)) e) t
theorem wC(hh:A.handled=none)(ha:S.has a (.tup xs))(hn:n=xs.length)(h:Q xs S):V B A S (unpackItems (.ref a) n none) Q:=λX s o=>by
 have' e:n=xs.toArray.size:=ae Kd hn;subst e;exact wpAny_unpackItems_tuple hh (o.tup ha) λh' hs=>⟨S,o.scratch hs s.toks,h⟩
theorem Qi(hh:A.handled=none)(ha:S.has a (.list xs))(hn:n=xs.length)(h:Q xs S):V B A S (unpackItems (.ref a) n none) Q:=λX s o=>by
 have' e:n=xs.toArray.size:=ae Kd hn;subst e;exact kun_itemsOf hh (o.list ha) λh' hs=>⟨S,o.scratch hs s.toks,h⟩
theorem jU(hh:A.handled=none)(ha:S.has a (.tup xs)\/S.has a (.list xs))(hn:(assignEach elts env).length=xs.length)(h:qk B A own env ((assignEach elts env).map (·.2)) xs vs S (Q ()))(ur:(assignEach elts env).findIdx? (·.1)=none:=by rfl):W B A own env vs S (assign (.Tuple elts k pos) env (.ref a)) Q:=λX s o f=>by
 rw[arm_assign_Tuple];refine wpAny_bind (wpAny_standAt ?_);unfold unpack;refine ae hn ?_;refine ae ur ?_;have q:V B A S (unpackItems (.ref a) xs.length none) (λys S'=>ys=xs/\S'=S):=by
  rcases ha with ha | ha
  ·exact wC hh ha rfl ⟨rfl,rfl⟩
  ·exact Qi hh ha rfl ⟨rfl,rfl⟩
 refine wpAny_bind (wpAny_holding (wpAny_mono (ao (vs:=vs) (Q:=λys vs' S'=>vs'=vs/\ys=xs/\S'=S) (VP q λZZ ZZ h=>⟨rfl,h⟩) X s o f) (λys s₁ q=>?_) λZZ ZZ e=>e));obtain⟨_,_,k₁,f₁,rfl,rfl,rfl⟩:=q;exact gw h X s₁ k₁ f₁
noncomputable def IY(sc:Scope)(ts vs:List Expr):Option (Option (List Str)) :=
 if !(ts.length == 2||ts.length == 3)||vs.length != ts.length then some none
 else if vs.any fun | .Starred .. => true | _=>false then some none
 else
  let line:=(ts.head?.map (·.pos.line)).getD 0
  let names:=ts.filterMap fun
   | .Name id pos=>if sc.names.lookup id == some .local&&pos.line == line then some id else none
   | _=>none
  if names.length != ts.length||names.eraseDups.length != names.length then some none
  else if vs.all (foldedForSure 8) then some none
  else if vs.all (constantsAlone 8) then none
  else some (some names)
theorem qA{sc:Scope}{ts vs:List Expr}{k k':Nat}{p p':Pos}{r:Option (List Str)}(en:En env sc)(h:IY sc ts vs=some r):swappedStores [.Tuple ts k p] (.Tuple vs k' p') env=pure r:=by
 have' h2:env.blockKind = .function:=by
  unfold Env.blockKind;refine ae en.fn ?_;rfl
 unfold swappedStores;rw[(funext en.kindOf:env.kindOf=_),h2,bne_self_eq_false];dsimp only;rw[Bool.or_false];unfold IY at h;dsimp only at h;split at h
 ·rename_i c;obtain rfl:=Option.some.inj h;refine Eq.trans (if_pos ?_) rfl;exact c
 rename_i c;refine Eq.trans (if_neg ?_) ?_
 ·exact c
 split at h
 ·rename_i c;obtain rfl:=Option.some.inj h;refine Eq.trans (if_pos ?_) rfl;exact c
 rename_i c;refine Eq.trans (if_neg ?_) ?_
 ·exact c
 split at h
 ·rename_i c;obtain rfl:=Option.some.inj h;refine Eq.trans (if_pos ?_) rfl;exact c
 rename_i c;refine Eq.trans (if_neg ?_) ?_
 ·exact c
 split at h
 ·rename_i c;obtain rfl:=Option.some.inj h;refine Eq.trans (if_pos ?_) rfl;exact c
 rename_i c;refine Eq.trans (if_neg ?_) ?_
 ·exact c
 split at h
 ·injection h
 rename_i c;refine Eq.trans (if_neg ?_) ?_
 ·exact c
 obtain rfl:=Option.some.inj h;rfl
theorem yi{elts k fO value pos}(hw:swappedStores [.Tuple elts k fO] value env=pure none)(h:W B A own env vs S (eval value env) (λv vs S=>W B A own env vs S (assign (.Tuple elts k fO) env v) (λZZ=>Q .next)))(hs:swapsWithSole [.Tuple elts k fO] value pos.line env=pure false:=by rfl):W B A own env vs S (exec (.Assign [.Tuple elts k fO] value pos) env) Q:=λX s o f=>Assign_Tuple (h.un o f) hs hw
theorem yQ{elts k fO value pos}(hw:swappedStores [.Tuple elts k fO] value env=pure (some names))(hh:A.handled=none)(h:W B A own env vs S (eval value env) (λv vs S=>∃a xs,v = .ref a/\S.has a (.tup xs)/\names.length=xs.length/\qk B A own env (names.reverse.map λn=>bindName env n) xs.reverse vs S (Q .next)))(hs:swapsWithSole [.Tuple elts k fO] value pos.line env=pure false:=by rfl):W B A own env vs S (exec (.Assign [.Tuple elts k fO] value pos) env) Q:=λX s o f =>
 Assign_Tuple_swapped (names:=names) (wpAny_mono (h X s o f) (λv s₁ q=>by
  obtain⟨bf,S₁,k₁,f₁,a,xs,rfl,ha,hn,q⟩:=q;refine wpAny_mono (ao (vs:=bf) (Q:=λys vs' S'=>vs'=bf/\ys=xs/\S'=S₁) (wC hh ha hn ⟨rfl,rfl,rfl⟩) X s₁ k₁ f₁) (λys s₂ r=>?_) λZZ ZZ e=>e;obtain⟨_,_,k₂,f₂,rfl,rfl,rfl⟩:=r;exact gw (Q:=λZZ=>Q .next) q X s₂ k₂ f₂) λZZ ZZ e=>e) hs hw
theorem yR(en:En env sc)(hk:ym (sc.names.lookup x)=true)(ho:own=true\/sc.names.lookup x=some .local)(h:Q () (zi vs x v) S):
  W B A own env vs S (bindName env x v) Q:=λX s o f=>bindName_ (xN en hk ho h X s o f)
/-! expressions -/
theorem WB{e₁ e₂ rest pos}(h:W B A own env vs S (eval e₁ env) (λv vs S=>W B A own env vs S (truthy v) (λc vs S=>if c then Q v vs S else W B A own env vs S (eval (.BoolOp .Or (e₂::rest) pos) env) Q))):
  W B A own env vs S (eval (.BoolOp .Or (e₁::e₂::rest) pos) env) Q:=λX s o f=>BoolOp_or (wpAny_mono (h X s o f) (λv s₁ ⟨_,_,k₁,f₁,q⟩=>wpAny_mono (q X s₁ k₁ f₁) (λc s₂ WC=>by
   obtain⟨aI,S₂,k₂,f₂,q⟩:=WC;cases c
   ·exact q X s₂ k₂ f₂
   ·exact⟨aI,S₂,k₂,f₂,q⟩) λZZ ZZ e=>e) λZZ ZZ e=>e)
theorem IZ{op e pos}(h:W B A own env vs S (eval e env) Q):W B A own env vs S (eval (.BoolOp op [e] pos) env) Q:=λX s o f=>BoolOp_one (h X s o f)
theorem yA{x rest pos whole}(h:W B A own env vs S (isTrue x env (eval x env)) (λc vs S=>if c then Q true vs S else W B A own env vs S (isTrue (.BoolOp .Or rest pos) env whole) Q)):
  W B A own env vs S (isTrue (.BoolOp .Or (x::rest) pos) env whole) Q:=λX s o f=>isTrue_or (wpAny_mono (h X s o f) (λc s₁ WG=>by
   obtain⟨bf,S₁,k₁,f₁,q⟩:=WG;cases c
   ·exact q X s₁ k₁ f₁
   ·exact⟨bf,S₁,k₁,f₁,q⟩) λZZ ZZ e=>e)
theorem qg{pos whole}(h:Q false vs S):W B A own env vs S (isTrue (.BoolOp .Or [] pos) env whole) Q:=λX s o f=>isTrue_or_nil ⟨vs,S,o,f,h⟩
theorem qB(h:W B A own env vs S whole (λv vs S=>W B A own env vs S (truthy v) Q))(he:isTrue e env whole=(do let v <-whole;standAt e.pos;holding [v] (truthy v)):=by rfl):W B A own env vs S (isTrue e env whole) Q:=λX s o f =>
 isTrue_plain (h.un o f) he
theorem Jf{l lT lU r₁ r₂ pos whole}(h:W B A own env vs S (eval l env) (λa vs S=>W B A own env vs S (eval r₁ env) (λb vs S=>W B A own env vs S (compareOp lT a b) (λc vs S=>W B A own env vs S (truthy c) (λt vs S =>
   if t then W B A own env vs S (eval r₂ env) (λb₂ vs S=>W B A own env vs S (compareOp lU b b₂) (λc vs S=>W B A own env vs S (truthy c) Q)) else Q false vs S)))))(hm:lastMarks (lT::lU::[]) (r₁::r₂::[])=false:=by with_unfolding_all rfl):W B A own env vs S (isTrue (.Compare l [lT,lU] [r₁,r₂] pos) env whole) Q:=λX s o f =>
 isTrue_chain (wpAny_mono (h X s o f) (λa s₁ ⟨_,_,k₁,f₁,q⟩=>test_link (wpAny_mono (q X s₁ k₁ f₁) (λb s₂ ⟨_,_,k₂,f₂,q⟩=>wpAny_mono (q X s₂ k₂ f₂) (λc s₃ ⟨_,_,k₃,f₃,q⟩=>wpAny_mono (q X s₃ k₃ f₃) (λt s₄ WH=>by
   obtain⟨lV,S₄,k₄,f₄,q⟩:=WH;cases t
   ·exact⟨lV,S₄,k₄,f₄,q⟩
   ·exact test_last (wpAny_mono (q X s₄ k₄ f₄) (λb₂ s₅ zp=>by obtain⟨_,_,k₅,f₅,q⟩:=zp;exact q.un k₅ f₅) λZZ ZZ e=>e)) λZZ ZZ e=>e) λZZ ZZ e=>e) λZZ ZZ e=>e)) λZZ ZZ e=>e) hm
/-! truth -/
theorem Qj(h:Q false S):V B A S (truthy .none) Q:=λX s o=>truthy_none ⟨S,o,h⟩
theorem XK(ha:S.has a (.tup xs))(hz:xs.length<=1000000)(h:Q (!xs.isEmpty) S):V B A S (truthy (.ref a)) Q:=λX s o =>
 truthy_tuple (o.tup ha) (by exact ae Kd (oV (tu hz))) ⟨S,o.toks _,by simpa using h⟩
end
end
section
set_option genSizeOf false
set_option genInjectivity false
open PySem PySem.W PySem.Calls PyProof.Rows
section
variable {α β γ:Type} {B:Bs} {A:Around} {own:Bool} {env:Env} {vs:Vs} {S:St}
theorem lW.new(o:Ok B S X s)(f:zA own env vs S X s)(ha:s.heap.objs.size<=a)(hm:a≠sysModules)(hk:∀b ob,s.heap.get? b=some ob->h'.get? b=some ob)(hc:∃ob,h'.get? a=some ob/\c'.Fits ob)(t:Nat):
  Ok B (S.put r a c') X { s with heap:=h',toks:=t }/\zA own env vs (S.put r a c') X { s with heap:=h',toks:=t }:=by
 have big:=o.above ha;refine⟨o.new big.1 ⟨big.2,hm⟩ (λb ob q ZZ=>hk b ob q) hc _ rfl rfl rfl,?_⟩;have o2:=o.around f;have uv:=o2.above ha;exact f.back o (o2.new (s':={ s with heap:=h',toks:=t }) uv.1 ⟨uv.2,hm⟩ (λb ob q ZZ=>hk b ob q) hc rfl rfl rfl)
theorem qO{X:Addr->Option Obj}{s:Shared}(o:Ok B S X s){a:Addr}(h:s.heap.objs.size<=a):a≠sysModules:=by
 refine aB (M6.mp (Q6 B.w)) λob e=>?_;have' this:_:=La (o.keep 525 ob (B.X 525 ob e));have' e1:sysModules=1:=rfl;refine ae e1 ?_;intro q;rw[q]at h;exact absurd (Lh this h) (by decide)
/-! t[1:] of a tuple -/
noncomputable abbrev yb(n:Nat)(t u v:Tok):Obj:={ cls:=.type "range",data:=.fields #[.int 0 t,.int n u,.int 1 v] }
theorem ql(h:∀a k' u v,S.k.le k'->k' a=some (.is (yb n u t v))->S.no a->Q (.ref a) (S.to .k k')):V B A S (call (.type "range") ([]++[.int n t])) Q:=λX s o =>
 call_range_1 ⟨_,o.new (r:=.k) (c':=.is (yb n s.toks t (s.toks+1))) o.lt.1 o.lt.2 (λb ob q e=>Ke _ q) ⟨_,Kl _ rfl,rfl,rfl⟩ _ rfl rfl rfl,h _ _ _ _ (Mp.av (o.lt.1 .k)) (za _ _ _) o.lt.1⟩
theorem ZW{n:Nat}(h:n<=1000000):Builtin.Range.small 0 n 1=true:=by
 unfold Builtin.Range.small;rw[rangeSize_one];unfold Builtin.Range.rangeFitsLong;simp;split <;> simp <;> lia
theorem J2{n:Nat}:Builtin.Range.rangeSize 0 n 1=n:=by
 rw[rangeSize_one];split <;> lia
noncomputable def ja(B:Bs)(a:Addr)(n:Nat)(t u v:Tok)(hz:n<=1000000):gH B where
 val:=.ref a
 n:=n
 P:=λi v=>∃t,v = .int i t
 It:=λh it i=>IsRangeIter h it i ((n:Int) - i) 1
 need:=λS=>S.has a (.is (yb n t u v))
 keep:=λe q=>q.trans e
 there:=λe=>⟨_,e⟩
 self:=λhit h=>wpAny_pyIter_rangeiter hit h
 start:=fun {A S X s Q} o hn h=>by
  refine qv (o.3 _ _ hn) λob e q ZZ=>?_;subst q;refine wpAny_pyIter_range e (ZW hz) (h _ rfl ?_);refine(?_:IsRangeIter _ _ _ _ _);refine(Kl _ rfl).trans ?_;refine ae J2 ?_;rfl
 item:=fun {A S X s it i Q} o hn hit aC h=>wpAny_pyNext_range_item hit (OC aC) λh' bw hs=>h _ h' _ ⟨_,rfl⟩ (by
  have' e:((n:Int) - i - 1)=(n:Int) - ((i+1:Nat):Int):=OD;have' e2:((i:Int)+1)=((i+1:Nat):Int):=Hu;rw[e,e2]at bw;exact bw) hs
 stop:=λhh o hn hit h=>wpAny_pyNext_range_end hh hit OG h
theorem XM{n:Nat}(hh:A.handled=none)(hz:n<=1000000)(ha:S.has a (.is (yb n t u v)))(h:∀c xs,IntsAre xs ((List.range n).map Int.ofNat)->S.no c->Q (.ref c) (S.put r c (.list xs))):V B A S (call (.type "list") ([]++[.ref a])) Q:=λX s o=>by
 refine qv (o.3 _ _ ha) λob e q ZZ=>?_;subst q;refine call_list_range hh e (ZW hz) J2 (Ks hz (by decide)) λh' tk pY c' hk hn hI=>?_;refine⟨_,o.new (r:=r) (c':=.list pY.toList) o.lt.1 o.lt.2 (λb ob q ZZ=>hk b ob q) ⟨_,hn,c',by simp⟩ _ rfl rfl rfl,h _ _ ?_ o.lt.1⟩;refine bE hI λhs hP=>?_;have' key:∀(m:Nat) (l:List Value) (b:Nat),l.length=m->(∀j v,l[j]? = some v->∃t,v=Value.int ((b+j:Nat):Int) t)->IntsAre l ((List.range' b m).map Int.ofNat):=by
  intro m;induction m with
  | zero=>intro l b hl _;refine ae (Lk.mp hl) ?_;exact .nil
  | succ m ih =>
   intro l b hl hP;cases l with
   | nil=>injection hl
   | cons x r =>
    obtain⟨t,rfl⟩:=hP 0 x rfl;refine ae List.range'_succ ?_;exact .cons _ t (ih r (b+1) (by simpa using hl) λj v hj=>by
     refine aB (hP (j+1) v hj) λt e=>?_;exact⟨t,by refine ae e ?_;congr 1;exact OH⟩)
 refine ae List.range_eq_range' ?_;refine key n _ 0 (by simpa using hs) λj v hj=>?_;refine aB (hP j v (by simpa using hj)) λt e=>?_;exact⟨t,by refine ae e ?_;congr 1;exact OI⟩
/-! sums,uw,least -/
theorem WK(hh:A.handled=none)(ha:S.has a (.list xs))(hi:IntsAre xs ns)(h:∀i t,Q (.int i t) S):V B A S (call (.builtin "sum") ([]++[.ref a])) Q:=λX s o=>by
 refine aB hi.allInts.items λys e=>?_;have' hl:_:=o.list ha;rw[e]at hl;exact sum_intListG hh hl λh' tk t' hk=>⟨S,o.grown hk tk,h _ _⟩
theorem WL(hh:A.handled=none)(ha:S.has a (.list xs))(hi:IntsAre xs ns)(aO:0<xs.length)(h:∀i t,Q (.int i t) S):V B A S (call (.builtin "max") ([]++[.ref a])) Q:=λX s o=>by
 refine aB hi.allInts.items λys e=>?_;have' hl:_:=o.list ha;rw[e]at hl;have' hz:0<ys.size:=by
  have' this:_:=congrArg Array.size e;rw[List.size_toArray]at this;unfold intItems at this;simp at this;exact OJ aO this
 refine max_intList hh hl hz λv h' tk hv hk=>?_;obtain⟨t,rfl⟩:=intItems_at hv;exact⟨S,o.grown hk tk,h _ _⟩
theorem WM(hh:A.handled=none)(h:∀t,Q (.int (if b > a then b else a) t) S):V B A S (call (.builtin "max") ([]++[.int a t,.int b u])) Q:=λX s o =>
 max_two_ints hh λh' tk hk=>⟨S,o.grown hk tk,by
  split
  ·rename_i c;have' this:_:=h u;rwa [if_pos c]at this
  ·rename_i c;have' this:_:=h t;rwa [if_neg c]at this⟩
theorem WN(hh:A.handled=none)(h:∀t,Q (.int (if b<a then b else a) t) S):V B A S (call (.builtin "min") ([]++[.int a t,.int b u])) Q:=λX s o =>
 min_two_ints hh λh' tk hk=>⟨S,o.grown hk tk,by
  split
  ·rename_i c;have' this:_:=h u;rwa [if_pos c]at this
  ·rename_i c;have' this:_:=h t;rwa [if_neg c]at this⟩
theorem WO(h:∀t,Q (.int (if a<0 then -a else a) t) S):V B A S (call (.builtin "abs") ([]++[.int a t])) Q:=λX s o =>
 PyProof.Rows.call_abs_int λu tk=>⟨S,o.toks tk,h u⟩
theorem Xc(hm:IntMulOk a b)(h:∀t,Q (.int (a*b) t) S):V B A S (binaryOp .Mult (.int a t) (.int b u)) Q:=λX s o=>PyProof.Rows.mul_int ⟨S,o.toks _,h _⟩ hm
theorem J3(hb:b≠0)(hp:Builtin.divisionGoesByPylong a b=false)(h:∀t,Q (.int (a.fdiv b) t) S):V B A S (binaryOp .FloorDiv (.int a t) (.int b u)) Q:=λX s o=>PyProof.Rows.floordiv_int hb ⟨S,o.toks _,h _⟩ (.inl hp)
end
end
section
set_option genSizeOf false
set_option genInjectivity false
open PySem PySem.W PySem.Calls PyProof.Rows
section
variable {α β γ:Type} {B:Bs} {A:Around} {own:Bool} {env:Env} {vs:Vs} {S:St}
noncomputable def gH.more(s1:gH B)(N:St->Prop):gH B where
 val:=s1.val
 n:=s1.n
 P:=s1.P
 It:=s1.It
 need:=λS=>s1.need S/\N S
 keep:=s1.keep
 there:=s1.there
 self:=s1.self
 start:=λo hn h=>s1.start o hn.1 h
 item:=λo hn hit aC h=>s1.item o hn.1 hit aC h
 stop:=λhh o hn hit h=>s1.stop hh o hn.1 hit h
theorem yB(en:En env sc)(hx:ym (sc.names.lookup x)=true)(hy:ym (sc.names.lookup y)=true)(ho:own=true\/(sc.names.lookup x=some .local/\sc.names.lookup y=some .local))(h:Q (zi (zi vs x a) y b) S):qk B A own env ((assignEach [.Name x px,.Name y py] env).map (·.2)) [a,b] vs S Q :=
 z8 (A:=A) en hx (ho.imp id And.left) (z8 en hy (ho.imp id And.right) h)
theorem WQ(s1:gH B){sc:Scope}{x y:Str}{px py pos:Pos}{k:Nat}(Pr:Nat->Value->Value->Prop)(hh:A.handled=none)(en:En env sc)(hx:ym (sc.names.lookup x)=true)(hy:ym (sc.names.lookup y)=true)(ho:own=true\/(sc.names.lookup x=some .local/\sc.names.lookup y=some .local))(hp:∀S i v,s1.need S->s1.P i v->∃a u w,v = .ref a/\S.has a (.tup [u,w])/\Pr i u w)(WR:∀{s:Shared} {it:Addr} {i:Nat} {v:Value} {Q:Unit->Shared->Prop},s1.It s.heap it i->Q () s->wpAny (model B.prog B.w) A (letOwnedTupleGo (.Tuple [.Name x px,.Name y py] k pos) (.ref it) v) Q cf s):
  gG B A own env (.Tuple [.Name x px,.Name y py] k pos) s1.src (λi vs S vs' S'=>S'=S/\∃u w,Pr i u w/\vs'=zi (zi vs x u) y w):=λX s vs S T i aC o f st hit hn=>by
 obtain⟨it,rfl,hit⟩:=hit;refine s1.item o hn hit aC λv h' tk hP bw hs=>⟨v,rfl,?_⟩;refine JM (hp S i v hn hP) λa u w bR ha km=>?_;obtain rfl:=bR;refine WR (s:={ s with heap:=h',toks:=tk }) bw ?_;have ext:yg [it] s.heap h':=yg.of (.head _) hs.extBut;have k₁:=o.bx st.1 st.2 ext tk;have f₁:=f.bx st ext tk;refine aB (s1.there bw) λoi eK=>?_;have' th:∀a∈[it],∃o,h'.get? a=some o:=λa m=>ae (Kf.mp m) ⟨_,eK⟩;refine wpAny_mono (jU (Q:=λZZ vs' S'=>vs'=zi (zi vs x u) y w/\S'=S) hh (.inl ha) rfl (yB en hx hy ho ⟨rfl,rfl⟩) (by rfl) _ _ (k₁.hide st.2) (f₁.hide st h')) (λZZ s₃ q=>?_) λZZ ZZ e=>e.elim;obtain⟨aD,S₃,k₃,f₃,rfl,rfl⟩:=q;refine bE (st.aE (s:={ s with heap:=h',toks:=tk }) th k₃) λdq e₄=>?_;exact⟨_,_,k₁.aE k₃,f₃.aE st,dq,⟨it,rfl,s1.keep bw (e₄ it (.head _))⟩,rfl,u,w,km,rfl⟩
/-! enumerate,of a list -/
noncomputable abbrev xd(it:Addr):Obj:={ cls:=.type "enumerate",dict:=none,data:=.fields #[.none,.bool false,.ref it,rawInt 0,.none,.none],slots := #[] }
noncomputable def xm(B:Bs)(l:Addr)(xs:List Value):Src B where
 n:=xs.length
 It:=λh T i=>∃e it old,T=[e,it]/\e≠it/\IsEnum h e it ((i:Nat):Int) old/\h.IsListIter it l i
 need:=λS=>S.has l (.list xs)
 keep:=λzp q=>by
  refine jy zp λe it old eT ne he hi=>?_;subst eT;refine zt hi λo ho r=>?_;exact⟨e,it,old,rfl,ne,(q e (.head _)).trans he,o,(q it (.tail _ (.head _))).trans ho,r⟩
 there:=λzp a m=>by
  refine jy zp λe it old eT ne he hi=>?_;subst eT;refine zt hi λo ho r=>?_;rcases Kw.mp m with rfl | m
  ·exact⟨_,he⟩
  ·exact ae (Kf.mp m) ⟨_,ho⟩
 self:=λzp h=>by refine jy zp λe it old eT ne he hi=>?_;subst eT;exact wpAny_pyIter_enum he h
 stop:=λhh o hn zp h=>by
  refine jy zp λe it old eT ne he hi=>?_;subst eT;exact wpAny_pyNext_enum_end hh he hi (o.list hn) (by simp) λh' hs=>h h' (yg.of (.tail _ (.head _)) hs)
theorem Xd{src:Src B}{p:Nat->Obj->Prop}{xs:List Value}{sc:Scope}{x y:Str}{px py pos:Pos}{k i tk:Nat}{e it:Addr}{w:Value}{old:Value}{X:Addr->Option Obj}{s:Shared}{h':Heap}(hI:∀{h e it old o i},e≠it->IsEnum h e it ((i:Nat):Int) old->h.get? it=some o->p i o->src.It h [e,it] i)(hh:A.handled=none)(en:En env sc)(hx:ym (sc.names.lookup x)=true)(hy:ym (sc.names.lookup y)=true)(ho:own=true\/(sc.names.lookup x=some .local/\sc.names.lookup y=some .local))(o:Ok B S X s)(f:zA own env vs S X s)(st:zE [e,it] env S X)(he:IsEnum s.heap e it ((i:Nat):Int) old)(ne:e≠it)(hw:xs[i]? = some w)(ux:IsEnumOut h' e it (((i:Nat):Int)+1) w s.heap.objs.size)(bw:∃o,h'.get? it=some o/\p (i+1) o)(ht:h'.get? s.heap.objs.size=some { cls:=.type "tuple",data:=.seq #[.int ((i:Nat):Int) tk,w] })(hk:∀b ob,b≠e->b≠it->s.heap.get? b=some ob->h'.get? b=some ob):
  wpAny (model B.prog B.w) A (letOwnedTupleGo (.Tuple [.Name x px,.Name y py] k pos) (.ref e) (.ref s.heap.objs.size)) (λZZ s₂=>wpAny (model B.prog B.w) A (assign (.Tuple [.Name x px,.Name y py] k pos) env (.ref s.heap.objs.size)) (λZZ s₃=>E2 λvs' S'=>A5 (Ok B S' X s₃) (zA own env vs' S' X s₃) (zE [e,it] env S' X) (src.It s₃.heap [e,it] (i+1)) (S'=S/\∃t w,xs[i]? = some w/\vs'=zi (zi vs x (.int i t)) y w)) cf s₂) cf { s with heap:=h',toks:=tk+1 }:=by
 refine wpAny_letOwnedTupleGo_enum ux λdN uy C5=>?_;have hs:Heap.SameBut e h' dN:=C5;have eN:e≠s.heap.objs.size:=K6 (La he);have' WT:dN.IsTuple s.heap.objs.size #[.int i tk,w]:=⟨_,(hs.2 _ (Ne.symm eN)).trans ht,rfl,_,rfl⟩;have ext:yg [e,it] s.heap dN:=λb ob nb q=>by
  have n1:b≠e:=λq=>nb (q▸.head _);have' n2:b≠it:=λq=>nb (q▸.tail _ (.head _));exact(hs.2 b n1).trans (hk b ob n1 n2 q)
 refine bE (o.cT f st ext (tk+1)) λk₁ f₁=>?_;have' uz:∃o,dN.get? it=some o/\p (i+1) o:=by
  refine zt bw λoi eK r=>?_;exact⟨oi,(hs.2 it (Ne.symm ne)).trans eK,r⟩
 refine wpAny_assign_Tuple hh WT (by rfl) (by rfl) λh₃ lX=>?_;replace lX:Heap.ExtBut dN.objs.size dN h₃:=lX;have dP:∀b ob,dN.get? b=some ob->h₃.get? b=some ob:=λb ob q=>lX b ob (K6 (La q)) q;refine bE (k₁.cT f₁ st (T:=[e,it]) (h':=h₃) (λb ob ZZ q=>dP b ob q) (tk+1)) λk₂ f₂=>?_;refine zt uz λoi eK ri=>?_;have' th:∀a∈[e,it],∃o,h₃.get? a=some o:=λa m=>by
  rcases Kw.mp m with rfl | m
  ·exact⟨_,dP _ _ uy⟩
  ·exact ae (Kf.mp m) ⟨_,dP _ _ eK⟩
 refine wpAny_mono (gw (Q:=λZZ vs' S'=>vs'=zi (zi vs x (.int i tk)) y w/\S'=S) (yB en hx hy ho ⟨rfl,rfl⟩) _ _ (k₂.hide st.2) (f₂.hide st h₃)) (λZZ s₃ q=>?_) λZZ ZZ e=>e.elim;obtain⟨aD,S₃,k₃,f₃,rfl,rfl⟩:=q;refine bE (st.aE (s:={ s with heap:=h₃,toks:=tk+1 }) th k₃) λdq e₄=>?_;exact⟨_,_,k₂.aE k₃,f₃.aE st,dq,hI ne ((e₄ e (.head _)).trans (dP _ _ uy)) ((e₄ it (.tail _ (.head _))).trans (dP _ _ eK)) ri,rfl,_,_,hw,rfl⟩
theorem Xe(hh:A.handled=none)(en:En env sc)(hx:ym (sc.names.lookup x)=true)(hy:ym (sc.names.lookup y)=true)(ho:own=true\/(sc.names.lookup x=some .local/\sc.names.lookup y=some .local)):
  gG B A own env (.Tuple [.Name x px,.Name y py] k pos) (xm B l xs) (λi vs S vs' S'=>S'=S/\∃t w,xs[i]? = some w/\vs'=zi (zi vs x (.int i t)) y w):=λX s vs S T i aC o f st hit hn=>by
 refine jy hit λe it old bo ne he hi=>?_;obtain rfl:=bo;have hw:xs[i]? = some (xs[i]'aC):=Ka aC;refine wpAny_pyNext_enum_item he hi (o.list hn) (by simpa using hw) ne λh' ux bw ht hz hk=>⟨_,rfl,?_⟩;exact Xd (src:=xm B l xs) (p:=λi o=>o.cls = .type "list_iterator"/\o.data = .fields #[.ref l,.int i 0]) (λne he hi r=>⟨_,_,_,rfl,ne,he,_,hi,r⟩) hh en hx hy ho o f st he ne hw ux bw ht hk
theorem ZX(hl:S.has l (.list xs))(h:∀e it o,e≠it->S.no e->S.no it->(o.cls = .type "list_iterator"/\o.data = .fields #[.ref l,.int 0 0])->Q (.ref e) ((S.put .m it (.is o)).put .m e (.is (xd it)))):V B A S (call (.type "enumerate") ([]++[.ref l])) Q:=λX s o=>by
 refine call_enumerate_list (o.list hl) λh' he hi hz hk=>?_;refine qY hi λoi eK c1 c2=>?_;have n1:s.heap.objs.size<=s.heap.objs.size+1:=Lq _;have' fi:oi.isFreed=false:=Obj.isFreed_of_fields c2;have' k1:_:=o.new (r:=.m) (c':=.is oi) o.lt.1 o.lt.2 (h':=h') (λb ob q ZZ=>hk b ob q) ⟨_,eK,rfl,fi⟩ { s with heap:=h' } rfl rfl rfl;have b2:=o.above n1;have ne:s.heap.objs.size+1≠s.heap.objs.size:=Mn _;have' k2:_:=k1.new (r:=.m) (c':=.is (xd s.heap.objs.size)) (h':=h') (St.eU b2.1 ne) ⟨b2.2,qO o n1⟩ (λb ob q ZZ=>q) ⟨_,he,rfl,rfl⟩ { s with heap:=h' } rfl rfl rfl;exact⟨_,k2,h _ _ _ ne b2.1 o.lt.1 ⟨c1,c2⟩⟩
theorem ZY{P:Obj->Prop}{src:Src B}(hI:∀{h e it old o},e≠it->IsEnum h e it ((0:Nat):Int) old->h.get? it=some o->P o->src.It h [e,it] 0)(h:W B A own env vs S (eval iter env) (λv vs' S'=>∃e it o S₀,v = .ref e/\e≠it/\S₀.no e/\S₀.no it/\P o/\S'=(S₀.put .m it (.is o)).put .m e (.is (xd it))/\Q vs' S₀)):GH B A own env vs S iter src Q:=λX s o f=>by
 refine wpAny_mono (h X s o f) (λv s₁ q=>?_) λZZ ZZ e=>e.elim;obtain⟨bf,S₁,k₁,f₁,e,it,oi,S₀,rfl,ne,ne1,ni,eK,rfl,q⟩:=q;have g1:((S₀.put .m it (.is oi)).put .m e (.is (xd it))).has e (.is (xd it)):=⟨.m,by refine(?_:upd _ _ _ _=_);exact za _ _ _⟩;have g2:((S₀.put .m it (.is oi)).put .m e (.is (xd it))).has it (.is oi):=⟨.m,by
  refine(?_:upd _ _ _ _=_);refine ae (zb _ _ (Ne.symm ne)) ?_;exact za _ _ _⟩
 refine qv (k₁.3 _ _ g1) λoe he bG ZZ=>?_;obtain rfl:=bG;refine qv (k₁.3 _ _ g2) λtB hi e' ZZ=>?_;subst e';have le:S₀.le ((S₀.put .m it (.is tB)).put .m e (.is (xd it))):=by
  have' l1:S₀.le (S₀.put .m it (.is tB)):=λr=>by
   cases r <;> first | exact Mp.le_refl _ | exact Mp.eS _ _ (ni .m)
  have' l2:(S₀.put .m it (.is tB)).le ((S₀.put .m it (.is tB)).put .m e (.is (xd it))):=λr=>by
   cases r <;> first | exact Mp.le_refl _ | exact Mp.eS _ _ (St.eU (r:=.m) (c:=.is tB) ne1 ne .m)
  exact St.le_trans l1 l2
 refine wpAny_pyIter_enum he ⟨[e,it],bf,S₀,rfl,k₁.weaken le,f₁.weaken le,?_,hI ne he hi eK,q⟩;have pZ:∀a∈[e,it],∃c,((S₀.put .m it (.is tB)).put .m e (.is (xd it))).has a c:=λa m=>by
  rcases Kw.mp m with rfl | m
  ·exact⟨_,g1⟩
  ·exact ae (Kf.mp m) ⟨_,g2⟩
 refine⟨λa m=>?_,λa m=>?_,λa m e'=>?_,λa m x c hx e'=>?_⟩
 ·refine aB (pZ a m) λc hc=>?_;exact k₁.4 a c hc
 ·rcases Kw.mp m with rfl | m
  ·exact ne1
  ·exact ae (Kf.mp m) ni
 ·refine aB (pZ a m) λc hc=>?_;exact St.bu f₁.4 (e'▸hc)
 ·refine aB (pZ a m) λcc hc=>?_;have q:=f₁.5 x c hx;subst e';split at q
  ·exact St.bu q.2.1 hc
  ·refine aB q λob q=>?_;rw[k₁.4 _ _ hc]at q;injection q
theorem J4(h:W B A own env vs S (eval iter env) (λv vs' S'=>∃e it o S₀,v = .ref e/\e≠it/\S₀.no e/\S₀.no it/\(o.cls = .type "list_iterator"/\o.data = .fields #[.ref l,.int 0 0])/\S'=(S₀.put .m it (.is o)).put .m e (.is (xd it))/\Q vs' S₀)):GH B A own env vs S iter (xm B l xs) Q :=
 ZY (P:=λo=>o.cls = .type "list_iterator"/\o.data = .fields #[.ref l,.int 0 0]) (λne he hi r=>⟨_,_,_,rfl,ne,he,_,hi,r⟩) h
end
end
section
set_option genSizeOf false
set_option genInjectivity false
open PySem
/-! pS probe sequence of a I5 table -/
noncomputable def yc(m:Nat):Prop:=m=7\/m=15\/m=31\/m=63
theorem nW{m:Nat}(g:yc m):7<=m/\m<=63:=by rcases g with rfl | rfl | rfl | rfl <;> decide
noncomputable def oY(mask:Nat):Nat->Nat->Nat
 | 0,i=>i
 | n+1,i=>oY mask n ((i*5+1) % (mask+1))
noncomputable def Bn(mask:Nat):Nat->Nat->List Nat
 | 0,_=>[]
 | n+1,i=>i::Bn mask n ((i*5+1) % (mask+1))
noncomputable def Zv(mask:Nat):Bool:=((List.range (mask+1)).all λj=>(Bn mask (mask+1) 0).contains j)&&(oY mask (mask+1) 0 == 0)
theorem WU:Zv 7=true:=by decide +kernel
theorem WV:Zv 15=true:=by decide +kernel
theorem WX:Zv 31=true:=by decide +kernel
theorem WY:Zv 63=true:=by decide +kernel
theorem GL{m:Nat}(h:yc m):Zv m=true:=by
 rcases h with rfl | rfl | rfl | rfl
 ·exact WU
 ·exact WV
 ·exact WX
 ·exact WY
theorem Xf{mask j:Nat}:∀{n i:Nat},j∈Bn mask n i->∃L,L<n/\oY mask L i=j:=by
 intro zl;induction zl with
 | zero =>
  intro i h;cases h
 | succ n ih =>
  intro i h;unfold Bn at h;rcases Kw.mp h with rfl | h
  ·exact⟨0,Kv _,rfl⟩
  ·refine zt (ih h) λL hL e=>?_;exact⟨L+1,Nat.succ_lt_succ hL,e⟩
theorem JO(mask:Nat):∀(a b i:Nat),oY mask (a+b) i=oY mask b (oY mask a i)
 | 0,b,i=>by rw[Nat.zero_add];rfl
 | a+1,b,i=>by rw[Nat.add_right_comm];exact JO mask a b _
theorem WZ{mask i j:Nat}(g:yc mask)(hi:i<=mask)(hj:j<=mask):∃L,L<=mask/\oY mask L i=j:=by
 have' c:_:=GL g;unfold Zv at c;rw[Bool.and_eq_true,List.all_eq_true,beq_iff_eq]at c;refine bE c λc W0=>?_;refine zt (Xf (List.contains_iff_mem.mp (c i (K8.mpr (Nat.lt_succ_of_le hi))))) λa ha ea=>?_;refine zt (Xf (List.contains_iff_mem.mp (c j (K8.mpr (Nat.lt_succ_of_le hj))))) λb hb eb=>?_;by_cases h:a<=b
 ·refine⟨b - a,by exact O0 hb,?_⟩;refine aR ea ?_;rewrite [<-JO];refine ae (show a+(b - a)=b by exact O1 h) ?_;exact eb
 ·refine⟨mask+1+b - a,by exact O2 h,?_⟩;refine aR ea ?_;rewrite [<-JO];refine ae (show a+(mask+1+b - a)=mask+1+b by exact O3 ha) ?_;rewrite [JO];refine ae W0 ?_;exact eb
noncomputable def yH(mask:Nat):Nat->Nat × Nat->Nat × Nat
 | 0,x=>x
 | n+1,x=>yH mask n (SetTable.leap mask x.1 x.2)
theorem Xg(mask:Nat):∀(a b:Nat) (x:Nat × Nat),yH mask (a+b) x=yH mask b (yH mask a x)
 | 0,b,x=>by rw[Nat.zero_add];rfl
 | a+1,b,x=>by
  rw[Nat.add_right_comm];refine(?_:yH mask (a+b) (SetTable.leap mask x.1 x.2)=yH mask b (yH mask a (SetTable.leap mask x.1 x.2)));exact Xg mask a b _
theorem gP(mask:Nat):∀(n:Nat) (x:Nat × Nat),(yH mask n x).2=x.2 / 32 ^ n
 | 0,x=>by simp[yH]
 | n+1,x=>by
  refine(?_:(yH mask n (SetTable.leap mask x.1 x.2)).2=_);rw[gP mask n];refine(?_:x.2 / 32 / 32 ^ n=_);rw[Nat.div_div_eq_div_mul,Nat.pow_succ,Nat.mul_comm]
theorem GN(mask:Nat):∀(n:Nat) (x:Nat × Nat),x.1<=mask->(yH mask n x).1<=mask
 | 0,x,h=>h
 | n+1,x,h=>GN mask n _ (by
  refine(?_:(x.1*5+1+x.2 / 32) % (mask+1)<=mask);exact Ls (Vy _ (Kv _)))
theorem Xh(mask:Nat):∀(n i:Nat),yH mask n (i,0)=(oY mask n i,0)
 | 0,i=>rfl
 | n+1,i=>by
  refine(?_:yH mask n (SetTable.leap mask i 0)=_);have' this:SetTable.leap mask i 0=((i*5+1) % (mask+1),0):=by rfl
  refine ae this ?_;rw[Xh mask n];rfl
theorem J6{mask i p j:Nat}(g:yc mask)(hi:i<=mask)(hp:p<2 ^ 64)(hj:j<=mask):∃L,L<=mask+13/\(yH mask L (i,p)).1=j:=by
 have' h0:(yH mask 13 (i,p)).2=0:=by
  rw[gP];exact Nat.div_eq_of_lt (Lh hp (by decide))
 have' h1:_:=GN mask 13 (i,p) hi;generalize hx:yH mask 13 (i,p)=x at h0 h1;obtain⟨i',p'⟩:=x;dsimp only at h0 h1;subst h0;refine zt (WZ g h1 hj) λL hL e=>?_;refine⟨13+L,by exact O4 hL,?_⟩;rewrite [Xg];refine ae hx ?_;rw[Xh];exact e
/-! pS probe lY an end -/
noncomputable def qJ(t:SetTable):Nat->SetTable.Probe->SetTable.Probe
 | 0,p=>p
 | n+1,p=>qJ t n (t.advance p)
theorem J7(t:SetTable):∀(a b:Nat) (p:SetTable.Probe),qJ t (a+b) p=qJ t b (qJ t a p)
 | 0,b,p=>by rw[Nat.zero_add];rfl
 | a+1,b,p=>by
  rw[Nat.add_right_comm];exact J7 t a b (t.advance p)
noncomputable def xP(t:SetTable)(p:SetTable.Probe):Prop:=p.j=p.i/\p.more=SetTable.runEnd t.mask p.i - p.i
theorem wD{t:SetTable}{p:SetTable.Probe}(h:0<p.more):t.advance p={ p with j:=p.j+1,more:=p.more - 1 }:=by
 unfold SetTable.advance;refine ae (if_pos h) ?_;rfl
theorem XN{t:SetTable}{p:SetTable.Probe}(h:p.more=0):t.advance p={ p with j:=(SetTable.leap t.mask p.i p.perturb).1,more:=SetTable.runEnd t.mask (SetTable.leap t.mask p.i p.perturb).1 - (SetTable.leap t.mask p.i p.perturb).1,i:=(SetTable.leap t.mask p.i p.perturb).1,perturb:=(SetTable.leap t.mask p.i p.perturb).2 }:=by
 unfold SetTable.advance;refine ae (if_neg (O5 h)) ?_;rfl
theorem GO{t:SetTable}:∀(m:Nat) (p:SetTable.Probe),p.more=m->xP t (qJ t (m+1) p)/\(qJ t (m+1) p).i=(SetTable.leap t.mask p.i p.perturb).1/\(qJ t (m+1) p).perturb=(SetTable.leap t.mask p.i p.perturb).2
 | 0,p,h=>by
  refine(?_:xP t (t.advance p)/\_);refine(?_:xP t (t.advance p)/\(t.advance p).i=_/\(t.advance p).perturb=_);refine ae (XN h) ?_;exact⟨⟨rfl,rfl⟩,rfl,rfl⟩
 | m+1,p,h=>by
  have' this:_:=GO (t:=t) m (t.advance p) (by refine ae (wD (Xw h)) ?_;refine(?_:p.more - 1=m);exact Hw h);refine(?_:xP t (qJ t (m+1) (t.advance p))/\(qJ t (m+1) (t.advance p)).i=_/\(qJ t (m+1) (t.advance p)).perturb=_);rw[wD (Xw h)]at this |-;exact this
theorem W3{t:SetTable}{p:SetTable.Probe}(h:xP t p):p.more<=9:=by
 exact ae h.2 (by unfold SetTable.runEnd;split;exact Kc (Nat.add_sub_cancel_left ..);exact ae (Nat.sub_self _) (Kt _))
theorem W4{t:SetTable}:∀(L:Nat) (p:SetTable.Probe),xP t p->∃n,n<=10*L/\xP t (qJ t n p)/\((qJ t n p).i,(qJ t n p).perturb)=yH t.mask L (p.i,p.perturb):=by
 intro zl;induction zl with
 | zero =>
  intro p h;exact⟨0,Kz _,h,rfl⟩
 | succ L ih =>
  intro p h;obtain⟨a,b,c⟩:=GO p.more p rfl;refine qY (ih (qJ t (p.more+1) p) a) λn hn hh e=>?_;refine⟨p.more+1+n,by have' this:_:=W3 h;exact O6 this hn rfl,by rw[J7];exact hh,?_⟩;rewrite [J7];refine ae e ?_;refine ae b ?_;refine ae c ?_;rfl
theorem W5(t:SetTable)(h:Int):xP t (t.probeStart h):=⟨rfl,rfl⟩
theorem I9(h:Int):SetTable.bits h<2 ^ 64:=by
 have' h1:_:=Int.emod_nonneg h (b:=2 ^ 64) (by decide);have' h2:_:=Int.emod_lt_of_pos h (b:=2 ^ 64) (by decide);exact(Int.toNat_lt h1).mpr h2
theorem J8:∀(n:Nat) (l:List Nat),l.length<n->∃j,j<n/\j∉l:=by
 intro zl;induction zl with
 | zero =>
  intro l h;exact absurd h (K4 _)
 | succ n ih =>
  intro l h;by_cases hm:n∈l
  ·refine zt (ih (l.erase n) (by refine ae (List.length_erase_of_mem hm) ?_;have' this:_:=Vc hm;exact O7 this h)) λj hj hn=>?_;exact⟨j,Lz hj,λq=>hn ((List.mem_erase_of_ne (K6 hj)).mpr q)⟩
  ·exact⟨n,Ln _,hm⟩
theorem W6(xs:Array Nat)(j:Nat)(hs:xs.toList.Pairwise (· < ·)):∀(fuel lo hi:Nat),hi - lo<=fuel->hi<=xs.size->lo<=hi->(∀i (h:i<xs.size),i<lo->xs[i]<j)->(∀i (h:i<xs.size),hi<=i->j<=xs[i])->
  SetTable.below.go xs j fuel lo hi<=xs.size/\(∀i (h:i<xs.size),i<SetTable.below.go xs j fuel lo hi->xs[i]<j)/\(∀i (h:i<xs.size),SetTable.below.go xs j fuel lo hi<=i->j<=xs[i]):=by
 intro fuel;induction fuel with
 | zero =>
  intro lo hi hf hz hl h1 h2;have' this:lo=hi:=O8 hf hl;subst this;exact⟨hz,h1,h2⟩
 | succ fuel ih =>
  intro lo hi hf hz hl h1 h2;unfold SetTable.below.go;have mono:∀i k (hi:i<xs.size) (hk:k<xs.size),i<=k->xs[i]<=xs[k]:=λi k hi hk C6=>by
   rcases Vt C6 with h | h
   ·have' this:_:=List.pairwise_iff_getElem.mp hs i k (by simpa using hi) (by simpa using hk) h;exact K5 (by simpa using this)
   ·subst h;exact Kz _
  by_cases c:lo<hi
  ·refine ae (if_pos c) ?_;dsimp only;have hm:(lo+hi) / 2<xs.size:=O9 c hl hz;have' e:xs.getD ((lo+hi) / 2) j=xs[(lo+hi) / 2]:=by refine ae Ma ?_;refine ae (Mi hm) ?_;rfl
   refine ae e ?_;by_cases d:xs[(lo+hi) / 2]<j
   ·refine ae (if_pos d) ?_;refine ih _ _ (Pa hf) hz (Pb c hl) (λi h aC=>?_) h2;exact K1 (mono i ((lo+hi) / 2) h hm (Pg aC)) d
   ·refine ae (if_neg d) ?_;refine ih _ _ (Ph hf c) (Pj hm) (Pk c) h1 (λi h hle=>?_);exact Ks (Ml d) (mono ((lo+hi) / 2) i hm h hle)
  ·refine ae (if_neg c) ?_;have' this:lo=hi:=CB hl c;subst this;exact⟨hz,h1,h2⟩
theorem xn{xs:Array Nat}(hs:xs.toList.Pairwise (· < ·))(j:Nat):SetTable.below xs j<=xs.size/\(∀i (h:i<xs.size),i<SetTable.below xs j->xs[i]<j)/\(∀i (h:i<xs.size),SetTable.below xs j<=i->j<=xs[i]) :=
 W6 xs j hs xs.size 0 xs.size Pl (Kz _) (Kt _) (λi h q=>absurd q (K4 _)) (λi h q=>absurd h (K3.mpr q))
theorem GP{xs:Array Nat}(hs:xs.toList.Pairwise (· < ·)){i:Nat}(h:i<xs.size):SetTable.below xs xs[i]=i/\SetTable.below xs (xs[i]+1)=i+1:=by
 have mono:∀i k (hi:i<xs.size) (hk:k<xs.size),i<k->xs[i]<xs[k]:=λi k hi hk C6=>by
  have' this:_:=List.pairwise_iff_getElem.mp hs i k (by simpa using hi) (by simpa using hk) C6;simpa using this
 constructor
 ·refine JR (xn hs xs[i]) λa b c=>?_
  apply Ku
  ·apply Ml
   intro q;exact L0 _ (b i h q)
  ·apply Ml
   intro q;have hq:SetTable.below xs xs[i]<xs.size:=Pm q a h;have' this:_:=c _ hq (Kz _);have' this:_:=mono _ i hq h q;exact Pn this ‹_› h hq
 ·refine JR (xn hs (xs[i]+1)) λa b c=>?_
  apply Ku
  ·apply Ml
   intro q;have hq:i+1<xs.size:=Pp q h a;have' this:_:=b (i+1) hq q;have' this:_:=mono i (i+1) h hq (Ln _);exact Pu hq h ‹_› this
  ·apply Ml
   intro q;have' this:_:=c i h (Px q h);exact Py this h
theorem W7{xs:Array Nat}(hs:xs.toList.Pairwise (· < ·)){j:Nat}(hj:j∉xs):(SetTable.insertAt xs (SetTable.below xs j) j).toList.Pairwise (· < ·):=by
 refine JR (xn hs j) λa b c=>?_;rw[SetTable.toList_insertAt];generalize hb:SetTable.below xs j=p at a b c;have bT:xs.toList.length=xs.size:=K7;rw[List.pairwise_append];refine⟨hs.sublist (List.take_sublist _ _),?_,?_⟩
 ·rw[List.pairwise_cons];refine⟨λy hy=>?_,hs.sublist (List.drop_sublist _ _)⟩;refine Ja (Me.mp hy) λk hk e=>?_;rw[List.length_drop,bT]at hk;rw[List.getElem_drop]at e;have oZ:p+k<xs.size:=Hx a hk;have' this:_:=c (p+k) oZ Ht;have e':xs[p+k]=y:=by simpa using e
  rw[e']at this;refine Lb this λq=>hj (q▸e'▸Array.getElem_mem oZ)
 ·intro x hx y hy;refine Ja (Me.mp hx) λk hk e=>?_;rw[List.length_take,bT]at hk;rw[List.getElem_take]at e;have oZ:k<xs.size:=Pz hk a;have lx:x<j:=by
   have' this:_:=b k oZ (PA hk a);have' e':xs[k]=x:=by simpa using e
   rw[e']at this;exact this
  rcases Kw.mp hy with rfl | hy
  ·exact lx
  ·refine Ja (Me.mp hy) λk2 p9 e2=>?_;rw[List.length_drop,bT]at p9;rw[List.getElem_drop]at e2;have C7:p+k2<xs.size:=Hx a p9;have' this:_:=c (p+k2) C7 Ht;have' e':xs[p+k2]=y:=by simpa using e2
   rw[e']at this;exact Hy lx this
noncomputable def zT(t:SetTable)(n:Nat)(led:Bool):Prop:=A6
 (t.place.size=n)
 (t.dummies = #[])
 (5*n<3*t.mask)
 (yc t.mask)
 (t.led=led)
 (t.place.toList.Pairwise (· < ·))
theorem zT.nX{t:SetTable}{n:Nat}{led:Bool}(T:zT t n led){j:Nat}(h:t.slot j = .empty):j∉t.place:=by
 intro m;refine Ja (Array.mem_iff_getElem.mp m) λi hi e=>?_;have' b:_:=(GP T.6 hi).1;rw[e]at b;unfold SetTable.slot at h;simp only at h;rw[b,Array.getElem?_eq_getElem hi,e]at h;simp at h
theorem zT.iA{t:SetTable}{n:Nat}{led:Bool}(T:zT t n led){j:Nat}(h:j∉t.place):t.slot j = .empty:=by
 unfold SetTable.slot;have' h1:(t.place[SetTable.below t.place j]? == some j)=false:=by
  cases e:t.place[SetTable.below t.place j]? with
  | none=>rfl
  | some x =>
   have' this:_:=Array.mem_of_getElem? e;rw[Option.some_beq_some,beq_eq_false_iff_ne];intro q;exact h (q▸this)
 simp only[h1];have' h2:SetTable.has t.dummies j=false:=by refine ae T.2 ?_;exact Vx _
 exact ae h2 rfl
theorem zT.lZ{t:SetTable}{n:Nat}{led:Bool}(T:zT t n led)(j:Nat):t.slot j≠.dummy:=by
 unfold SetTable.slot;have' h2:SetTable.has t.dummies j=false:=by refine ae T.2 ?_;unfold SetTable.has;exact Vx _
 refine ae h2 ?_;dsimp only;split <;> simp
theorem zT.live{t:SetTable}{n:Nat}{led:Bool}(T:zT t n led){j i:Nat}(h:t.slot j = .live i):i<n:=by
 unfold SetTable.slot at h;simp only at h;split at h
 ·rename_i c;injection h with zz1;obtain rfl:=zz1;refine aR T.1 ?_;have' this:_:=beq_iff_eq.mp c;exact(Array.getElem?_eq_some_iff.mp this).1
 ·split at h <;> injection h
theorem zT.lY{t:SetTable}{n:Nat}{led:Bool}(T:zT t n led)(h:Int):∃k,k<=10*(t.mask+13)/\t.slot (qJ t k (t.probeStart h)).j = .empty:=by
 refine zt (J8 (t.mask+1) t.place.toList (by refine ae K7 ?_;refine ae T.1 ?_;have' this:_:=T.3;exact PB this)) λj hj hn=>?_;have' hi:(t.probeStart h).i<=t.mask:=Ls (Vy _ (Kv _));refine zt (J6 (j:=j) T.4 hi (I9 h) (Ls hj)) λL hL e=>?_;refine qY (W4 L _ (W5 t h)) λk hk hh e2=>?_;refine⟨k,by exact PC hk hL,?_⟩;have' e3:(qJ t k (t.probeStart h)).j=j:=ae hh.1 (ae (show(qJ t k (t.probeStart h)).i=(yH t.mask L ((t.probeStart h).i,(t.probeStart h).perturb)).1 from congrArg Prod.fst e2) e);refine ae e3 ?_;exact T.iA λq=>hn (by simpa using q)
theorem gQ(t:SetTable)(p:SetTable.Probe):(t.advance p).dummy=p.dummy:=by
 unfold SetTable.advance;split <;> rfl
theorem zT.fP{t:SetTable}{n:Nat}{led:Bool}(T:zT t n led){hashAt:Nat->Int}{h:Int}:∀(fuel k:Nat) (p:SetTable.Probe),k<fuel->p.dummy=none->t.slot (qJ t k p).j = .empty->
  (∃j,SetTable.probe.go t hashAt h fuel p=some (.empty j none)/\t.slot j = .empty/\∃m,m<=k/\j=(qJ t m p).j)\/
  ∃j i next k',SetTable.probe.go t hashAt h fuel p=some (.candidate j i next)/\t.slot j = .live i/\hashAt i=h/\k'<k/\next.dummy=none/\t.slot (qJ t k' next).j = .empty/\∃m,next=qJ t m p:=by
 intro fuel;induction fuel with
 | zero=>intro k p hk;exact absurd hk (K4 _)
 | succ fuel ih =>
  intro k p hk hd he;cases hs:t.slot p.j with
  | empty=>exact .inl ⟨p.j,by unfold SetTable.probe.go;refine ae hs ?_;refine ae hd ?_;rfl,hs,0,Kt _,rfl⟩
  | dummy=>exact absurd hs (T.lZ _)
  | live i =>
   cases k with
   | zero=>exact nomatch hs.symm.trans he
   | succ k =>
    by_cases c:(hashAt i == h)=true
    ·exact .inr ⟨p.j,i,t.advance p,k,by unfold SetTable.probe.go;refine ae hs ?_;dsimp only;exact if_pos c,hs,beq_iff_eq.mp c,Ln _,(gQ t p).trans hd,he,1,rfl⟩
    ·have e:SetTable.probe.go t hashAt h (fuel+1) p=SetTable.probe.go t hashAt h fuel (t.advance p):=by rw[SetTable.probe.go.eq_def];dsimp only;refine ae hs ?_;dsimp only;exact if_neg c
     rcases ih k (t.advance p) (Vd hk) ((gQ t p).trans hd) he with ⟨j,e1,e2,m,hm,e3⟩ | ⟨j,i',next,k',e1,e2,e3,e4,e5,e6,m,e7⟩
     ·exact .inl ⟨j,e.trans e1,e2,m+1,L9 hm,e3⟩
     ·exact .inr ⟨j,i',next,k',e.trans e1,e2,e3,Lz e4,e5,e6,m+1,e7⟩
end
section
set_option genSizeOf false
set_option genInjectivity false
open PySem
/-! a table laid anew -/
noncomputable abbrev Ow:=Array (Option Nat)
noncomputable def Jg(o:Ow):List Nat:=o.toList.filterMap id
theorem JP(v:Nat)(r:List (Option Nat)):(some v::r).filterMap id=v::r.filterMap id:=rfl
theorem JQ(r:List (Option Nat)):(none::r).filterMap id=r.filterMap id:=rfl
theorem W8(mask i:Nat):i<=SetTable.runEnd mask i:=by unfold SetTable.runEnd;split;exact Mm ..;exact Kz _
theorem W9{mask:Nat}{owner:Ow}(hz:owner.size=mask+1):∀(fuel L i p:Nat),L<fuel->owner.getD (yH mask L (i,p)).1 (some 0)=none->∃j,SetTable.layClean.free mask owner fuel i p=some j/\owner.getD j (some 0)=none:=by
 intro zl;induction zl with
 | zero =>
  intro L i p h _;exact absurd h (K4 _)
 | succ fuel ih =>
  intro L i p h hn;unfold SetTable.layClean.free;cases e:(List.range (SetTable.runEnd mask i+1 - i)).find? (λk=>(owner.getD (i+k) (some 0)).isNone) with
  | some k =>
   have' this:_:=List.find?_some e;exact⟨i+k,rfl,by simpa using this⟩
  | none =>
   cases L with
   | zero =>
    have' this:_:=List.find?_eq_none.mp e 0 (K8.mpr (by have' this:_:=W8 mask i;exact PR this));rw[Nat.add_zero]at this;have' oW:owner.getD i (some 0)=none:=hn;rw[oW]at this;exact absurd rfl this
   | succ L=>exact ih L _ _ (Vd h) hn
theorem zaO{mask m:Nat}{owner:Ow}(hz:owner.size=mask+1)(hp:(Jg owner).Perm (List.range m))(hm:m<=mask):∃j,j<=mask/\owner.getD j (some 0)=none:=by
 apply Classical.byContradiction
 intro aH;have' all:∀x∈owner.toList,x≠none:=λx hx e=>by
  refine Ja (Me.mp hx) λj hj he=>?_;refine aH ⟨j,?_,?_⟩
  ·rw[Array.length_toList]at hj;exact PS hj hz
  ·have' this:owner[j]? = some x:=by
    refine aR Array.getElem?_toList ?_;refine ae (Ka hj) ?_;refine ae he ?_;rfl
   exact ae Ma (ae this (ae e rfl))
 have' len:∀l:List (Option Nat),(∀x∈l,x≠none)->(l.filterMap id).length=l.length:=by
  intro l;induction l with
  | nil=>intro _;rfl
  | cons x r ih =>
   intro h;cases x with
   | none=>exact absurd rfl (h none (.head _))
   | some v =>
    rewrite [JP];refine ae Lj ?_;refine ae Lj ?_;refine ae (ih λy hy=>h y (.tail _ hy)) ?_;rfl
 have' h1:_:=hp.length_eq;rw[List.length_range]at h1;have' h2:_:=len owner.toList all;have' h3:owner.toList.length=mask+1:=aR hz K7;unfold Jg at h1;exact PT h3 h2 h1 hm
theorem zdP{owner:Ow}{j v:Nat}(hj:owner.getD j (some 0)=none):(Jg (owner.setIfInBounds j (some v))).Perm (v::Jg owner):=by
 have aC:j<owner.size:=by
  apply Classical.byContradiction
  intro h;rw[Array.getD_eq_getD_getElem?,Array.getElem?_eq_none (gZ h)]at hj;injection hj
 have' hx:owner.toList[j]? = some none:=by
  refine ae Array.getElem?_toList ?_;rw[Array.getD_eq_getD_getElem?,Array.getElem?_eq_getElem aC]at hj;refine ae (Mi aC) ?_;exact congrArg some hj
 unfold Jg;refine ae Array.toList_setIfInBounds ?_;generalize owner.toList=l at hx;clear hj aC;induction l generalizing j with
 | nil=>injection hx
 | cons x r ih =>
  cases j with
  | zero =>
   simp only[List.getElem?_cons_zero,Option.some.injEq]at hx;subst hx;refine ae List.set_cons_zero ?_;rw[JP,JQ]
  | succ j =>
   simp only[List.getElem?_cons_succ]at hx;refine ae List.set_cons_succ ?_;cases x with
   | none=>rw[JQ,JQ];exact ih hx
   | some u =>
    rw[JP,JP];exact((ih hx).cons u).trans (List.Perm.swap v u _)
theorem zaP(n:Nat):Jg (Array.replicate n none)=[]:=by
 unfold Jg;refine ae Array.toList_replicate ?_;induction n with
 | zero=>rfl
 | succ n ih=>refine ae List.replicate_succ ?_;rw[JQ];exact ih
theorem Qk{mask:Nat}(g:yc mask)(hs:Array Int)(hz:hs.size<=mask):∃owner:Ow,SetTable.layClean mask hs=some owner/\owner.size=mask+1/\(Jg owner).Perm (List.range hs.size):=by
 have' key:∀(l:List Int) (owner:Ow) (m:Nat),owner.size=mask+1->(Jg owner).Perm (List.range m)->m+l.length<=mask->
   ∃iB,l.foldl (init:=some (owner,m)) (fun(acc:Option (Ow × Nat)) h=>(do
    let(owner,k) <-acc
    let j <-SetTable.layClean.free mask owner (SetTable.turns mask) (SetTable.bits h % (mask+1)) (SetTable.bits h)
    pure (owner.setIfInBounds j (some k),k+1)))=some (iB,m+l.length)/\iB.size=mask+1/\(Jg iB).Perm (List.range (m+l.length)):=by
  intro l;induction l with
  | nil=>intro owner m h1 h2 h3;exact⟨owner,rfl,h1,h2⟩
  | cons h l ih =>
   intro owner m h1 h2 h3;rw[List.length_cons]at h3;refine zt (zaO h1 h2 (PU h3)) λj0 hj0 hn0=>?_;refine zt (J6 (j:=j0) g (Ls (Vy (SetTable.bits h) (Kv mask))) (I9 h) hj0) λL hL eL=>?_;refine zt (W9 h1 (SetTable.turns mask) L (SetTable.bits h % (mask+1)) (SetTable.bits h) (by exact PV hL rfl) (ae eL hn0)) λj hj hn=>?_;have' hp':(Jg (owner.setIfInBounds j (some m))).Perm (List.range (m+1)):=by
    refine(zdP hn).trans ?_;refine ae Vl ?_;exact(h2.cons m).trans (List.perm_append_comm (l₁:=[m]))
   refine qY (ih (owner.setIfInBounds j (some m)) (m+1) (ae Array.size_setIfInBounds h1) hp' (PW h3)) λo' e1 e2 e3=>?_;refine⟨o',?_,e2,?_⟩
   ·refine ae List.foldl_cons ?_;have' this:(do
     let(owner,k) <-some (owner,m)
     let j <-SetTable.layClean.free mask owner (SetTable.turns mask) (SetTable.bits h % (mask+1)) (SetTable.bits h)
     pure (owner.setIfInBounds j (some k),k+1):Option (Ow × Nat))=some (owner.setIfInBounds j (some m),m+1):=by
     refine(?_:(SetTable.layClean.free mask owner (SetTable.turns mask) (SetTable.bits h % (mask+1)) (SetTable.bits h)).bind _=_);exact ae hj rfl
    refine ae this ?_;refine ae e1 ?_;refine ae Lj ?_
    congr 2;exact PX
   ·exact ae Lj (ae (show m+(l.length+1)=m+1+l.length by exact PY) e3)
 refine qY (key hs.toList (Array.replicate (mask+1) none) 0 Array.size_replicate (by rw[zaP];exact List.Perm.refl _) (ae K7 (PZ hz))) λo' e1 e2 e3=>?_;rw[Array.length_toList,Nat.zero_add]at e3 e1;refine⟨o',?_,e2,e3⟩;unfold SetTable.layClean;rw[<-Array.foldl_toList];have' this:_:=congrArg (Option.map Prod.fst) e1;exact this
theorem zdQ(owner:Ow):((List.range owner.size).filterMap λj=>(owner.getD j none).map (j,·)).map (·.2)=Jg owner:=by
 obtain⟨l⟩:=owner;refine ae List.map_filterMap ?_;refine ae Kd ?_;refine(?_:_=List.filterMap id l);have e:(λj=>Option.map (λx:Nat × Nat=>x.2) (Option.map (λx=>(j,x)) (Array.getD ⟨l⟩ j none)))=λj=>l.getD j none:=by
  funext j
  rw[Option.map_map];have' this:(Array.getD ⟨l⟩ j none)=l.getD j none:=by
   refine ae Ma ?_;refine ae Kh ?_;simp
  refine ae this ?_;cases l.getD j none <;> rfl
 refine ae e ?_;induction l with
 | nil=>rfl
 | cons x r ih =>
  refine ae Lj ?_;refine ae List.range_succ_eq_map ?_;refine ae List.filterMap_cons ?_;refine ae List.filterMap_map ?_;have e0:(x::r).getD 0 none=x:=rfl;have e1:((λj=>(x::r).getD j none) ∘ Nat.succ)=λj=>r.getD j none:=by funext j;rfl
  refine ae e0 ?_;refine ae e1 ?_;have KA:=ih (by
   funext j
   rw[Option.map_map];have' this:(Array.getD ⟨r⟩ j none)=r.getD j none:=by
    refine ae Ma ?_;refine ae Kh ?_;simp
   refine ae this ?_;cases r.getD j none <;> rfl)
  cases x with
  | none=>refine ae KA ?_;rfl
  | some v=>refine ae KA ?_;rfl
theorem Zw{mask finger moves:Nat}{led plain:Bool}(g:yc mask)(hs:Array Int)(hz:5*hs.size<3*mask):∃t order,SetTable.laid mask finger moves led plain hs=some (t,order)/\zT t hs.size led/\t.mask=mask/\order.toList.Perm (List.range hs.size):=by
 refine qY (Qk g hs (HA hz)) λowner e1 e2 e3=>?_;have e4:=zdQ owner;rw[e2]at e4;unfold SetTable.laid;refine ae e1 ?_;refine⟨_,_,rfl,⟨?_,rfl,by exact hz,g,rfl,?_⟩,rfl,?_⟩
 ·refine(?_:(((List.range (mask+1)).filterMap λj=>(owner.getD j none).map (j,·)).map (·.1)).toArray.size=_);refine ae Kd ?_;rewrite [List.length_map];refine aR (Vm (·.2)) ?_;refine ae e4 ?_;refine ae e3.length_eq ?_;refine ae Mv ?_;rfl
 ·refine(?_:(((List.range (mask+1)).filterMap λj=>(owner.getD j none).map (j,·)).map (·.1)).Pairwise (· < ·));rw[List.pairwise_map,List.pairwise_filterMap];refine List.Pairwise.imp ?_ List.pairwise_lt_range;intro a b eM x hx y hy;cases ha:owner.getD a none with
  | none=>rw[ha]at hx;injection hx
  | some u =>
   cases hb:owner.getD b none with
   | none=>rw[hb]at hy;injection hy
   | some v =>
    rw[ha]at hx;rw[hb]at hy;obtain rfl:=Option.some.inj hx;obtain rfl:=Option.some.inj hy;exact eM
 ·refine(?_:(((List.range (mask+1)).filterMap λj=>(owner.getD j none).map (j,·)).map (·.2)).Perm _);exact ae e4 e3
theorem gx{α:Type}{es:Array α}{order:Array Nat}(h:order.toList.Perm (List.range es.size)):(order.filterMap (es[·]?)).toList.Perm es.toList:=by
 refine ae Array.toList_filterMap ?_;exact(h.filterMap _).trans (by rw[filterMap_getElem?_range])
theorem Zx{α:Type}{es:Array α}{order:Array Nat}(h:order.toList.Perm (List.range es.size)):(order.filterMap (es[·]?)).size=es.size:=by
 exact aR K7 (ae ((gx h).length_eq) (ae K7 rfl))
theorem xF{n:Nat}(h:n<=15)(h5:4<n):yc (SetTable.sizeAbove (SetTable.grown n) - 1)/\5*n<3*(SetTable.sizeAbove (SetTable.grown n) - 1):=by
 have' this:∀n,n<=15->4<n->(SetTable.sizeAbove (SetTable.grown n) - 1=7\/SetTable.sizeAbove (SetTable.grown n) - 1=15\/SetTable.sizeAbove (SetTable.grown n) - 1=31\/SetTable.sizeAbove (SetTable.grown n) - 1=63)/\5*n<3*(SetTable.sizeAbove (SetTable.grown n) - 1):=by decide
 exact this n h h5
theorem J9{n m:Nat}(h:n<=15)(h':m<=15)(h4:4<n+m):yc (SetTable.sizeAbove ((n+m)*2) - 1)/\5*(n+m)<3*(SetTable.sizeAbove ((n+m)*2) - 1):=by
 have' key:∀k,k<=30->4<k->(SetTable.sizeAbove (k*2) - 1=7\/SetTable.sizeAbove (k*2) - 1=15\/SetTable.sizeAbove (k*2) - 1=31\/SetTable.sizeAbove (k*2) - 1=63)/\5*k<3*(SetTable.sizeAbove (k*2) - 1):=by decide
 exact key (n+m) (P1 h h') h4
end
section
set_option genSizeOf false
set_option genInjectivity false
open PySem PySem.W PySem.Calls PyProof.Rows
theorem XO(hn:n≠0)(h:∀i d,i<n->Q i { s with drawn:=d }):wpAny M A (choose src n) Q E s:=λΓ p hΓ =>
 ⟨hn,h _ _ (Vy _ (Nat.pos_of_ne_zero hn))⟩
section
variable {prog:Program} {w:World} {A:Around} {E:Value->Shared->Prop} {s:Shared}
theorem qU:∀{xs:List α} {i:Nat} {x:α},xs[i]? = some x->(x::xs.eraseIdx i).Perm xs
 | [],i,x,h=>by injection h
 | y::r,0,x,h=>by obtain rfl:=Option.some.inj h;exact List.Perm.refl _
 | y::r,i+1,x,h=>by
  refine ae List.eraseIdx_cons_succ ?_;exact(List.Perm.swap y x _).trans ((qU (xs:=r) (i:=i) h).cons y)
theorem qC:∀{n:Nat} {xs:List α} {s:Shared} {Q:List α->Shared->Prop},xs.length=n->(∀ys d,ys.Perm xs->Q ys { s with drawn:=d })->wpAny (model prog w) A (drawOrder n xs) Q E s
 | 0,xs,s,Q,hl,h=>by
  obtain rfl:=Lk.mp hl;exact wpAny_pure (h [] s.drawn (List.Perm.refl _))
 | n+1,[],s,Q,hl,h=>by injection hl
 | n+1,x::r,s,Q,hl,h=>by
  refine wpAny_bind (XO (Nat.succ_ne_zero _) λi d hi=>?_);have hx:(x::r)[i]? = some ((x::r)[i]'hi):=Ka hi;refine ae hx ?_;refine wpAny_bind (qC (n:=n) ?_ λys d' hp=>wpAny_pure (h _ d' ?_))
  ·exact ae (List.length_eraseIdx_of_lt hi) (ae hl rfl)
  ·exact(hp.cons _).trans (qU hx)
theorem xQ(next:Nat->Nat)(xs:Array α):(pickOrder next xs).toList.Perm xs.toList:=by
 have' key:∀(fuel k:Nat) (left:List α) (out:Array α),left.length=fuel->(pickOrder.go next fuel k left out).toList.Perm (out.toList++left):=by
  intro fuel;induction fuel with
  | zero =>
   intro k left out hl;obtain rfl:=Lk.mp hl;unfold pickOrder.go;simp
  | succ fuel ih =>
   intro k left out hl;unfold pickOrder.go;have' rg:0<left.length:=Xw hl;have hi:next k % left.length<left.length:=Vy _ rg;have hx:left[next k % left.length]? = some (left[next k % left.length]'hi):=Ka hi;refine ae hx ?_;refine(ih (k+1) _ _ (ae (List.length_eraseIdx_of_lt hi) (Hw hl))).trans ?_;refine ae Ve ?_;rw[List.append_assoc];exact List.Perm.append_left _ (qU hx)
 unfold pickOrder;have' this:_:=key xs.size 0 xs.toList #[] (by simp);simpa using this
noncomputable def zW(w:World):Bool:=w.params.followText "set-order"
noncomputable def yS(t:SetTable)(n:Nat)(led:Bool):Prop:=A6
 (t.place.size=n)
 (t.dummies = #[])
 (n<=t.mask)
 (yc t.mask)
 (t.led=led)
 (t.place.toList.Pairwise (· < ·))
theorem zT.wide{n:Nat}{led:Bool}(T:zT t n led):yS t n led:=⟨T.1,T.2,by have' this:_:=T.3;exact HA this,T.4,T.5,T.6⟩
theorem yS.fill{n:Nat}{led:Bool}(T:yS t n led):t.fill=n:=by unfold SetTable.fill;refine ae T.1 ?_;refine ae T.2 ?_;rfl
theorem yS.fits{n:Nat}{led:Bool}(T:yS t n led):t.fits n=true:=by
 unfold SetTable.fits;refine ae T.fill ?_;refine ae T.1 ?_;simp[T.3]
theorem yS.l0{n:Nat}{led:Bool}(T:yS t n led):yS { t with plain:=false } n led:=⟨T.1,T.2,T.3,T.4,T.5,T.6⟩
theorem yS.ok{n:Nat}{led:Bool}(T:yS t n led)(h:t.tooFull=false):zT t n led:=by
 refine⟨T.1,T.2,?_,T.4,T.5,T.6⟩;unfold SetTable.tooFull at h;rw[T.fill]at h;simp at h;exact Rd h
theorem qV(xs:Array α)(p:Nat)(x:α):(SetTable.insertAt xs p x).size=xs.size+1:=by
 refine aR K7 ?_;refine ae ((Vf xs p x).length_eq) ?_;refine ae K7 ?_;rw[Array.size_push]
theorem zT.put{t:SetTable}{n:Nat}{led:Bool}(T:zT t n led){j:Nat}(hj:t.slot j = .empty):yS (t.put j).1 (n+1) led:=by
 refine⟨?_,?_,?_,T.4,T.5,W7 T.6 (T.nX hj)⟩
 ·refine(?_:(SetTable.insertAt t.place _ j).size=_);rewrite [qV];refine ae T.1 ?_;rfl
 ·refine(?_:(if SetTable.has t.dummies j=true then _ else t.dummies) = #[]);have' h2:SetTable.has t.dummies j=false:=by refine ae T.2 ?_;exact Vx _
  exact ae h2 (ae (if_neg Kn) T.2)
 ·refine(?_:n+1<=t.mask);have' this:_:=T.3;have' g:7<=t.mask:=(nW T.4).1;exact Rf this g
theorem Ql(ho:s.heap.get? a=some (jz es n t))(T:yS t es.length (!zW w))(h:∀es' d,es'.toList.Perm es->Q es' { s with drawn:=d }):wpAny (model prog w) A (setWalk a) Q E s:=by
 have' hf:t.fits es.toArray.size=true:=ae Kd T.fits;refine wpAny_bind (wpAny_setState_of ho rfl hf ?_);refine wpAny_bind (wpAny_bind (wpAny_askSetting (wpAny_pure ?_)));refine(?_:wpAny _ _ (if w.params.followText "set-order"=true then _ else _) _ _ _);by_cases b:w.params.followText "set-order"=true
 ·refine ae (if_pos b) ?_;refine wpAny_bind (wpAny_askSetting (wpAny_pure (h _ s.drawn ?_)));simpa using xQ _ es.toArray
 ·refine ae (if_neg b) ?_;have' b':zW w=false:=by unfold zW;simpa using b
  refine(?_:wpAny _ _ (if (!t.plain&&decide (es.toArray.size > 1))=true then _ else _) _ _ _);by_cases c:(!t.plain&&decide (es.toArray.size > 1))=true
  ·refine ae (if_pos c) ?_;refine wpAny_bind (qC Kd λys d hp=>wpAny_pure (h _ d ?_));simpa using hp
  ·refine ae (if_neg c) ?_;have' hl:t.led=true:=ae T.5 (ae b' rfl);refine wpAny_bind (m:=if (!t.led&&decide (es.toArray.size > 1))=true then unsupported "set:maker-not-led" else pure ()) ?_;refine ae hl ?_;exact wpAny_pure (wpAny_pure (h _ s.drawn (by simp)))
end
end
section
set_option genSizeOf false
set_option genInjectivity false
open PySem PySem.W PySem.Calls PyProof.Rows
section
variable {prog:Program} {w:World} {A:Around} {E:Value->Shared->Prop} {s:Shared}
noncomputable def yI(es:List (Int × Value)):Prop:=∀e∈es,∃n t,e=(hashInt n,Value.int n t)
noncomputable def rh:Value->Int
 | .int n _=>n
 | _=>0
noncomputable def zn(es:List (Int × Value)):List Int:=es.map λe=>rh e.2
theorem yI.perm(h:yI es)(p:es'.Perm es):yI es':=λe he=>h e (p.mem_iff.mp he)
theorem gy(p:es'.Perm es):(zn es').Perm (zn es):=p.map _
theorem yI.push(h:yI es)(n:Int)(t:Tok):yI (es++[(hashInt n,.int n t)]):=λe he=>by
 rcases Ko.mp he with he | he
 ·exact h e he
 ·exact ae (Kf.mp he) ⟨n,t,rfl⟩
theorem yI.elems(h:yI es):ElemsOf (intKind prog w) es:=λe he=>by
 refine Jb (h e he) λn t bR=>?_;obtain rfl:=bR;exact⟨⟨n,intKind_is _ _ _ _,rfl⟩,rfl⟩
theorem yI.find(h:yI es)(k:Int):(es.findIdx? (λe=>(intKind prog w).is k e.2)).isSome=decide (k∈zn es):=by
 induction es with
 | nil=>simp[zn]
 | cons e r ih =>
  refine Jb (h e (.head _)) λn t bo=>?_;obtain rfl:=bo;have' ih:_:=ih λx hx=>h x (.tail _ hx);refine ae List.findIdx?_cons ?_;have e1:(intKind prog w).is k (Value.int n t)=decide (k=n):=KeyKind.is_eq_decide (knd:=intKind prog w) (intKind_is _ _ _ _) k;refine ae e1 ?_;by_cases q:k=n
  ·subst q;simp[zn,rh]
  ·refine ae (decide_eq_false q) ?_;simp only[Bool.false_eq_true,if_false,Option.isSome_map];refine ae ih ?_;have' e2:zn ((hashInt n,Value.int n t)::r)=n::zn r:=rfl;refine ae e2 ?_;simp[q]
theorem zT.freeSlot{n:Nat}{led:Bool}(T:zT t n led)(h:Int):∃j,t.freeSlot h=some (j,false)/\t.slot j = .empty:=by
 refine zt (T.lY h) λk hk he=>?_;have' this:_:=T.fP (hashAt:=λZZ=>h+1) (h:=h) (10*SetTable.turns t.mask) k (t.probeStart h) (by exact HB hk) rfl he;unfold SetTable.freeSlot SetTable.probe;rcases this with ⟨j,e,e2,_⟩ | ⟨j,i,next,k',_,_,e,_⟩
 ·exact ae e ⟨j,rfl,e2⟩
 ·exact absurd e λe=>absurd (Int.add_left_cancel (e.trans (Int.add_zero _).symm)) (by decide)
theorem zct(T:zT t es.size led)(h:Int)(x:Value):∃es' t',layNew t es h x=(es',t',false,false)/\es'.toList.Perm (es.toList++[(h,x)])/\yS t' (es.size+1) led:=by
 refine zt (T.freeSlot h) λj e hj=>?_;unfold layNew;refine ae e ?_;dsimp only;have W:=T.put hj;have' hz:(SetTable.insertAt es (t.put j).2 (h,x)).size=es.size+1:=qV ..;have hf:(t.put j).1.fits (SetTable.insertAt es (t.put j).2 (h,x)).size=true:=ae hz W.fits;refine⟨SetTable.insertAt es (t.put j).2 (h,x),(t.put j).1,?_,?_,W⟩
 ·refine ae hf ?_;unfold SetTable.orStandIn;exact ae (if_pos hf) rfl
 ·refine(Vf _ _ _).trans ?_;refine ae Ve ?_;rfl
theorem yS.relayAll{led:Bool}(T:yS t es.size led)(hz:es.size<=15)(hf:t.tooFull=true):∃es' t',PySem.relayAll t es (SetTable.grown es.size)=(es',t',false)/\es'.toList.Perm es.toList/\zT t' es.size led:=by
 have' h4:4<es.size:=by
  unfold SetTable.tooFull at hf;rw[T.fill]at hf;simp at hf;exact Xv hf (nW T.4).1
 refine bE (xF hz h4) λg r=>?_;obtain⟨t',order,e1,e2,e3,e4⟩:=Zw (finger:=t.finger) (moves:=t.movedTo (SetTable.sizeAbove (SetTable.grown es.size) - 1)) (led:=t.led) (plain:=t.plain) g (es.map (·.1)) (ae Vv r);rw[Array.size_map]at e2 e4;unfold PySem.relayAll SetTable.relaid;refine ae e1 ?_;have' hc:coversAll order es.size=true:=List.isPerm_iff.mpr e4;have' hs:(order.filterMap (es[·]?)).size=es.size:=Zx e4;have' rk:t'.fits (order.filterMap (es[·]?)).size=true:=ae hs e2.wide.fits;refine⟨_,t',?_,gx e4,T.5▸e2⟩;simp only[hc,rk,Bool.and_self,if_true]
theorem qt{a:Addr}{es:List (Int × Value)}{n:Nat}{t:SetTable}{h:Heap}(ho:h.get? a=some (jz es n t))(es':Array (Int × Value))(t':SetTable):
  (h.update a (Obj.putSet es' t')).get? a=some (jz es'.toList (n+1) t'):=by
 have' this:_:=Le (Obj.putSet es' t') ho (by rfl);exact ae this rfl
theorem wE{a:Addr}{es:List (Int × Value)}{n:Nat}{t:SetTable}{led:Bool}{k:Int}{u:Tok}{Q:Bool->Shared->Prop}(ho:s.heap.get? a=some (jz es n t))(I:yI es)(T:zT t es.length led)(h1:k∈zn es->Q false s)(h2:k∉zn es->es.length<=14/\∀h' es' n' t',Heap.SameBut a s.heap h'->h'.get? a=some (jz es' n' t')->es'.Perm (es++[(hashInt k,.int k u)])->zT t' es'.length led->Q true { s with heap:=h' }):
  wpAny (model prog w) A (setAddHashed a (.int k u) (hashInt k)) Q E s:=by
 have hf:t.fits es.toArray.size=true:=ae Kd T.wide.fits;have uA:ElemsOf (intKind prog w) es.toArray.toList:=I.elems;have' hT:zT t es.toArray.size led:=ae Kd T;have' small:es.length<scanBound:=by
  have:=T.3;have b:scanBound=4096:=rfl;exact Hr this (nW T.4).2 b
 have' hb:es.toArray.size<scanBound:=ae Kd small;have Bo:=I.find (prog:=prog) (w:=w) k;refine wpAny_holding (wpAny_bind (wpAny_setState_of ho rfl hf ?_));dsimp only;refine ae (byScan_of (knd:=intKind prog w) rfl hb uA) ?_;refine ae (if_pos rfl) ?_;refine wpAny_bind ?_;refine wpAny_bind (wpAny_rule ?_);refine wpAny_bind (wpAny_setScan_of (knd:=intKind prog w) (k:=k) (intKind_is _ _ _ _) ho rfl hf uA ?_);have' hfi:es.toArray.toList.findIdx? (λe=>(intKind prog w).is k e.2)=es.findIdx? (λe=>(intKind prog w).is k e.2):=rfl;refine ae hfi ?_;cases hr:es.findIdx? (λe=>(intKind prog w).is k e.2) with
 | some j =>
  rw[hr]at Bo;exact wpAny_pure (wpAny_pure (h1 (by simpa using Bo)))
 | none =>
  rw[hr]at Bo;refine bE (h2 (by simpa using Bo)) λhz h2=>?_;refine jg (zct hT (hashInt k) (.int k u)) λcq t1 e1 p1 W1=>?_;refine ae e1 ?_;dsimp only;refine wpAny_bind (wpAny_pure ?_);rw[List.size_toArray]at W1;have lj:cq.size=es.length+1:=by
   refine aR K7 ?_;refine ae p1.length_eq ?_;exact Ki
  have uB:∀(t2:SetTable),yS t2 (es.length+1) led->wpAny (model prog w) A (do
    storeSet a cq t2
    if (!false&&t2.tooFull)=true then do
      (match (relayAll t2 cq (SetTable.grown cq.size)).2.2 with | true=>rule "set.scan.the-table-gave-way" | false=>pure ())
      storeSet a (relayAll t2 cq (SetTable.grown cq.size)).1 (relayAll t2 cq (SetTable.grown cq.size)).2.1
      pure (some true)
     else pure (some true)) (λr s'=>r=some true/\Q true s') E s:=by
   intro t2 W2;refine wpAny_bind (wpAny_storeSet_of ho rfl ?_ (ae lj (ae sizeLine_eq (JU hz rfl))));have da:=qt ho cq t2;have sb:=Heap.SameBut.update s.heap a (Obj.putSet cq t2);by_cases c:t2.tooFull=true
   ·simp only[c,Bool.not_false,Bool.and_self,if_true];refine jg (yS.relayAll (t:=t2) (es:=cq) (ae lj W2) (Rh lj hz rfl) c) λeu t3 e2 p2 T3=>?_;refine ae e2 ?_;dsimp only;have Bp:eu.size=es.length+1:=aR K7 (ae p2.length_eq (ae K7 (ae lj rfl)));refine wpAny_bind (wpAny_pure (wpAny_bind (wpAny_storeSet_of da rfl ?_ (ae Bp (ae sizeLine_eq (JU hz rfl))))));refine wpAny_pure ⟨rfl,h2 _ eu.toList _ t3 (sb.trans (Heap.SameBut.update _ a _)) (qt da eu t3) (p2.trans p1) ?_⟩;refine ae K7 ?_;refine ae Bp ?_;rw[lj]at T3;exact T3
   ·have c':t2.tooFull=false:=by simpa using c
    simp only[c',Bool.and_false,Bool.false_eq_true,if_false];refine wpAny_pure ⟨rfl,h2 _ cq.toList _ t2 sb da p1 ?_⟩;refine ae K7 ?_;refine ae lj ?_;exact W2.ok c'
  have fin:∀{m:Sem (Option Bool)},wpAny (model prog w) A m (λr s'=>r=some true/\Q true s') E s->wpAny (model prog w) A m (λr s'=>wpAny (model prog w) A (match r with | some added=>pure added | none=>setAddHashedIn a (.int k u) (hashInt k) 99999) Q E s') E s:=λhm =>
   wpAny_mono hm (λr s' q=>by obtain⟨rfl,q⟩:=q;exact wpAny_pure q) λZZ ZZ e=>e
  refine fin ?_;split
  ·refine wpAny_bind ?_;refine ae (hashByValue_scannable 8 rfl) ?_;refine wpAny_pure ?_;exact uB _ W1
  ·refine wpAny_bind (wpAny_pure ?_);refine ae (if_pos rfl) ?_;exact uB _ W1
theorem Zy(ho:s.heap.get? a=some (jz es n t))(I:yI es)(T:zT t es.length led)(h1:∀tk,k∈zn es->Q false { s with toks:=tk })(h2:k∉zn es->es.length<=14/\∀h' es' n' t' tk,Heap.SameBut a s.heap h'->h'.get? a=some (jz es' n' t')->es'.Perm (es++[(hashInt k,.int k u)])->zT t' es'.length led->Q true { s with heap:=h',toks:=tk }):
  wpAny (model prog w) A (setAdd a (.int k u)) Q E s:=by
 refine wpAny_holding (wpAny_bind ((intKind prog w).pyHash (k:=k) (intKind_is _ _ _ _) ?_));exact wE (s:={ s with toks:=s.toks+1 }) ho I T (h1 _) λhk=>⟨(h2 hk).1,λh' es' n' t' a1 a2 a3 a4=>(h2 hk).2 h' es' n' t' _ a1 a2 a3 a4⟩
end
end
section
set_option genSizeOf false
set_option genInjectivity false
open PySem PySem.W PySem.Calls PyProof.Rows
section
variable {prog:Program} {w:World} {A:Around} {E:Value->Shared->Prop} {s:Shared}
theorem xR(h:Q false s):wpAny (model prog w) A (eqBool (.str a t) (.int b u)) Q E s:=by
 refine wpAny_holding ?_;refine ae (if_neg (by intro q;have:=eq_of_beq q;injection this)) ?_;exact wpAny_bind (EqMixed.eq_str_int (wpAny_truthy_bool h))
theorem xS(h:Q false s):wpAny (model prog w) A (eqBool (.int a t) (.str b u)) Q E s:=by
 refine wpAny_holding ?_;refine ae (if_neg (by intro q;have:=eq_of_beq q;injection this)) ?_;exact wpAny_bind (EqMixed.eq_int_str (wpAny_truthy_bool h))
noncomputable abbrev Pt:=Sum Str Int
noncomputable def Yb:Pt->Value->Bool
 | .inl x,v=>Value.isStrOf x v
 | .inr n,v=>Value.isInt n v
theorem y7(h:Yb (.inl x) v=true):Value.isStrOf x v=true:=h
theorem xe(h:Yb (.inr x) v=true):Value.isInt x v=true:=h
theorem zdR(v:Value)(a b:Pt)(ha:Yb a v=true)(hb:Yb b v=true):a=b:=by
 cases a with
 | inl x =>
  have ha:=y7 ha;cases b with
  | inl y=>exact congrArg Sum.inl (Value.isStrOf_inj _ _ _ ha (y7 hb))
  | inr n =>
   have' hb:_:=xe hb;obtain⟨t,rfl⟩:=Value.isStrOf_shape ha;refine aB (Value.isInt_shape hb) λu e=>?_;injection e
 | inr m =>
  have ha:=xe ha;cases b with
  | inl y =>
   have' hb:_:=y7 hb;obtain⟨t,rfl⟩:=Value.isInt_shape ha;refine aB (Value.isStrOf_shape hb) λu e=>?_;injection e
  | inr n=>exact congrArg Sum.inr (Value.isInt_inj _ _ _ ha (xe hb))
theorem XQ(k:Pt)(v:Value)(h:Yb k v=true):carriedByValue v=true:=by
 cases k with
 | inl x=>obtain⟨t,rfl⟩:=Value.isStrOf_shape (show Value.isStrOf x v=true from h);rfl
 | inr m=>obtain⟨t,rfl⟩:=Value.isInt_shape (show Value.isInt m v=true from h);rfl
noncomputable def KC(w:World):Pt->Int
 | .inl x=>hashStr w x
 | .inr n=>hashInt n
theorem zcu(hv:Yb k v=true)(h:Q (KC w k) { s with toks:=s.toks+1 }):wpAny (model prog w) A (PySem.pyHash v) Q E s:=by
 cases k with
 | inl x=>obtain⟨t,rfl⟩:=Value.isStrOf_shape (show Value.isStrOf x v=true from hv);exact wpAny_pyHash_str h
 | inr m=>obtain⟨t,rfl⟩:=Value.isInt_shape (show Value.isInt m v=true from hv);exact wpAny_pyHash_int h
theorem zcv(hu:Yb a u=true)(hv:Yb b v=true)(h:Q (decide (a=b)) s):wpAny (model prog w) A (PySem.eqBool u v) Q E s:=by
 cases a with
 | inl x =>
  obtain⟨t,rfl⟩:=Value.isStrOf_shape (show Value.isStrOf x u=true from hu);cases b with
  | inl y =>
   obtain⟨t',rfl⟩:=Value.isStrOf_shape (show Value.isStrOf y v=true from hv);exact wpAny_eqBool_str (by simpa using h)
  | inr n =>
   obtain⟨t',rfl⟩:=Value.isInt_shape (show Value.isInt n v=true from hv);exact xR (by simpa using h)
 | inr m =>
  obtain⟨t,rfl⟩:=Value.isInt_shape (show Value.isInt m u=true from hu);cases b with
  | inl y =>
   obtain⟨t',rfl⟩:=Value.isStrOf_shape (show Value.isStrOf y v=true from hv);exact xS (by simpa using h)
  | inr n =>
   obtain⟨t',rfl⟩:=Value.isInt_shape (show Value.isInt n v=true from hv);refine wpAny_eqBool_int ?_;have' e:(m == n)=decide (Sum.inr (α:=Str) m=Sum.inr n):=by
    by_cases q:m=n
    ·subst q;simp
    ·simp[q]
   exact ae e h
theorem zkd(k:Pt)(x:Str)(t:Tok)(v:Value)(h:Yb k (.str x t)=true):Yb k v=v.isStr x:=by
 cases k with
 | inl y =>
  refine aB (Value.isStrOf_shape (y7 h)) λu hu=>?_;injection hu with hx;subst hx;refine(?_:Value.isStrOf _ v=_);cases v <;> rfl
 | inr n=>refine aB (Value.isInt_shape (xe h)) λu hu=>?_;injection hu
noncomputable def zB(prog:Program)(w:World):KeyKind prog w Pt where
 is:=Yb
 hash:=KC w
 inj:=zdR
 byValue:=XQ
 pyHash:=zcu
 eqBool:=zcv
 «strs» := zkd
theorem zkZ(prog:Program)(w:World)(x:Str)(t:Tok):(zB prog w).is (.inl x) (.str x t)=true:=by refine(?_:Value.isStrOf x (.str x t)=true);simp[Value.isStrOf]
theorem zla(prog:Program)(w:World)(n:Int)(t:Tok):(zB prog w).is (.inr n) (.int n t)=true:=by refine(?_:Value.isInt n (.int n t)=true);simp[Value.isInt]
noncomputable def qK(prog:Program)(w:World)(h:Heap)(ks:List Pt)(a:Addr):Prop:=IsTupleKey (zB prog w) h ks a/\∃x r,ks = .inl x::r
noncomputable def Yc(prog:Program)(w:World)(h:Heap)(es:List (Int × Value)):Prop:=∀e∈es,∃a ks,e=(tupleKeyHash (zB prog w) ks,Value.ref a)/\qK prog w h ks a
noncomputable def C8(prog:Program)(w:World)(h:Heap)(es:List (Int × Value))(ks:List Pt):Prop:=∃e∈es,∃a,e.2 = .ref a/\qK prog w h ks a
theorem zlH{M:Model}{m m1:Sem β}{Q:β->Shared->Prop}{E:Value->Shared->Prop}(e:m=m1)(h:wpAny M A m1 Q E s):wpAny M A m Q E s:=e▸h
theorem Yd{h:Heap}{ks:List Pt}{a:Addr}{Q:Bool->Shared->Prop}(hk:IsTupleKey (zB prog w) s.heap ks a)(h:Q false s):wpAny (model prog w) A (ofAClassStatement 8 (.ref a)) Q E s:=by
 have hT:=hk.typeIs;refine jy hk λo items n ho ZZ hd hi=>?_
 delta ofAClassStatement
 refine wpAny_bind (wpAny_typeOf hT ?_);dsimp only;refine wpAny_bind ?_;refine wpAny_pure ?_;refine ae (if_neg (by decide)) ?_;refine wpAny_bind (wpAny_seqItems ho hd ?_);dsimp only;refine wpAny_bind ?_;refine(?_:wpAny _ _ (forIn items _ _) _ _ s);refine aR M9 ?_;refine wpAny_forIn_list _ (λrest r s'=>r.1=none/\s'=s/\∀v∈rest,carriedByValue v=true) _ ?_ ?_ _ _ ⟨rfl,rfl,hi.byValue⟩
 ·intro v rest r s' bZ;refine Qe bZ λhr bo bS=>?_;obtain rfl:=bo;have hv:=bS v (.head _);refine wpAny_bind (zlH (m1:=pure false) (by cases v <;> first | rfl | exact absurd (hv:false=true) Kn) (wpAny_pure ?_));refine ae (if_neg Kn) ?_;exact wpAny_pure ⟨rfl,rfl,λu hu=>bS u (List.mem_cons_of_mem _ hu)⟩
 ·rintro⟨r1,r2⟩ s' iC;refine Qe iC λhr cA ZZ=>?_;obtain rfl:=cA;simp only at hr;subst hr;exact wpAny_pure h
theorem zdU{ks:List Pt}{b:Addr}(hb:qK prog w s.heap ks b):∀(l:List (Int × Value)) {Q:Bool->Shared->Prop},Yc prog w s.heap l->Q false s->wpAny (model prog w) A (searchCouldBeSeen (.ref b) (l.map (·.2))) Q E s:=by
 intro l Q hl h;refine wpAny_bind ?_;refine wpAny_forIn_list _ (λrest r s'=>r.1=none/\s'=s/\∃l',rest=l'.map (·.2)/\Yc prog w s.heap l') _ ?_ ?_ _ _ ⟨rfl,rfl,l,rfl,hl⟩
 ·rintro v rest r s' ⟨hr,rfl,l',hv,nY⟩;cases l' with
  | nil=>injection hv
  | cons e l' =>
   rw[List.map_cons]at hv;injection hv with zz1 zz2;obtain rfl:=zz1;obtain rfl:=zz2;refine j8 (nY e (.head _)) λa KD cj ha=>?_;obtain rfl:=cj;have next:Yc prog w s'.heap l':=λx hx=>nY x (.tail _ hx);dsimp only;by_cases q:(b == a)=true
   ·refine ae q ?_;refine ae (if_pos rfl) ?_;exact wpAny_pure ⟨rfl,rfl,l',rfl,next⟩
   ·have' q':(b == a)=false:=by simpa using q
    refine ae q' ?_;have' cb:(carriedByValue (.ref b)&&carriedByValue (.ref a))=false:=rfl;refine ae cb ?_;refine ae (if_neg Kn) ?_;refine wpAny_bind (wpAny_eqIsQuiet_tuple hb.1 ?_);refine ae (if_neg Kn) ?_;refine wpAny_bind (wpAny_eqIsQuiet_tuple ha.1 ?_);refine ae (if_neg Kn) ?_;refine wpAny_bind (Yd (h:=s'.heap) hb.1 ?_);refine ae (if_neg Kn) ?_;refine wpAny_bind (Yd (h:=s'.heap) ha.1 ?_);refine ae (if_neg Kn) ?_;exact wpAny_pure ⟨rfl,rfl,l',rfl,next⟩
 ·rintro⟨r1,r2⟩ s' eV;refine Qe eV λhr dy ZZ=>?_;obtain rfl:=dy;simp only at hr;subst hr;exact wpAny_pure h
theorem yS.nZ{n:Nat}{led:Bool}(T:yS t n led):t.gaveWay=false:=by
 unfold SetTable.gaveWay;rcases T.4 with e | e | e | e <;> refine ae e ?_ <;> rfl
theorem qK.inj(hx:qK prog w h x a)(hy:qK prog w h y a):x=y:=hx.1.inj hy.1
theorem zlb{M:Model}{c:Prop}[Decidable c]{l r:Sem β}{Q:β->Shared->Prop}{E:Value->Shared->Prop}(h:wpAny M A r Q E s)(k:wpAny M A r Q E s->wpAny M A l Q E s):wpAny M A (if c then l else r) Q E s:=by
 by_cases q:c
 ·exact ae (if_pos q) (k h)
 ·exact ae (if_neg q) h
theorem Qm(hu:A.units<cLine)(ho:s.heap.get? a=some (jz es n t))(TE:Yc prog w s.heap es)(T:zT t es.length led)(hb:qK prog w s.heap ks b):
  ∀(fuel k:Nat) (eO:Option SetTable.Probe) {Q:SetFound->Shared->Prop},k<fuel->k<10*SetTable.turns t.mask->(eO.getD (t.probeStart (tupleKeyHash (zB prog w) ks))).dummy=none->
   t.slot (qJ t k (eO.getD (t.probeStart (tupleKeyHash (zB prog w) ks)))).j = .empty->(C8 prog w s.heap es ks->Q (.there none) s)->(∀j,t.slot j = .empty->Q (.free j false) s)->
   wpAny (model prog w) A (setSearchFrom a (.ref b) (tupleKeyHash (zB prog w) ks) true fuel eO) Q E s:=by
 intro fuel;induction fuel with
 | zero=>intro k eO Q hk;exact absurd hk (K4 _)
 | succ fuel ih =>
  intro k eO Q hk p9 hd he h1 h2;have hf:t.fits es.toArray.size=true:=ae Kd T.wide.fits;rcases T.fP (hashAt:=λi=>(es.toArray[i]?.map (·.1)).getD 0) (h:=tupleKeyHash (zB prog w) ks) (10*SetTable.turns t.mask) k _ p9 hd he with ⟨j,e1,ej,_⟩ | ⟨j,i,next,k',e1,e2,e3,e4,e5,e6,_⟩ <;> (refine wpAny_bind (wpAny_setState_of ho rfl hf ?_);dsimp only;refine ae T.wide.nZ ?_;refine ae (if_neg Kn) ?_;generalize hm:t.probe _ (tupleKeyHash (zB prog w) ks) (eO.getD (t.probeStart (tupleKeyHash (zB prog w) ks)))=pr)
  ·have' km:pr=some (.empty j none):=hm.symm.trans e1;subst km;exact wpAny_pure (h2 j ej)
  ·have' km:pr=some (.candidate j i next):=hm.symm.trans e1;subst km;dsimp only;have hi:i<es.length:=T.live e2;have hx:es.toArray[i]? = some (es[i]'hi):=by simp
   refine Bg (TE _ (Ky hi)) λa' KD ee iD=>?_;refine zlb ?_ λrest=>?_
   ·refine ae hx ?_;refine ae ee ?_;dsimp only;refine wpAny_bind (wpAny_holding (wpAny_eqBool_tuple hu iD.1 hb.1 ?_));refine wpAny_bind (wpAny_setState_of ho rfl hf ?_);dsimp only;by_cases q:KD=ks
    ·subst q;refine ae (if_pos (My.mpr ⟨rfl,decide_eq_true rfl⟩)) ?_;exact wpAny_pure (h1 ⟨_,Ky hi,a',ae ee rfl,iD⟩)
    ·refine ae (if_neg (λz=>q (of_decide_eq_true (My.mp z).2))) ?_;have' sm:t.sameMemory t.moves t.mask=some true:=by unfold SetTable.sameMemory;simp
     refine ae sm ?_;dsimp only;refine ae (if_pos rfl) ?_;refine ae e2 ?_;dsimp only;refine ae hx ?_;refine ae ee ?_;dsimp only;have' si:isSame (.ref a') (.ref a')=pure true:=by unfold isSame;simp
     refine ae si ?_;refine wpAny_bind (wpAny_bind (wpAny_pure (wpAny_pure ?_)));refine ae (if_pos rfl) ?_;refine wpAny_bind (wpAny_pure ?_);dsimp only;refine ae (if_neg (λz=>q (of_decide_eq_true z))) ?_;exact ih k' (some next) (Ri e4 hk) (Rj e4 p9) e5 e6 h1 h2
   ·have' fl:((es.toArray.filter (λx=>x.1 == tupleKeyHash (zB prog w) ks)).toList.map (·.2))=(es.filter (λx=>x.1 == tupleKeyHash (zB prog w) ks)).map (·.2):=by simp
    refine ae fl ?_;refine wpAny_bind (zdU hb _ (λx hx=>TE x (L6.mp hx).1) ?_);refine ae (if_neg Kn) ?_;exact rest
end
end
section
set_option genSizeOf false
set_option genInjectivity false
open PySem PySem.W PySem.Calls PyProof.Rows
section
variable {prog:Program} {w:World} {A:Around} {E:Value->Shared->Prop} {s:Shared}
theorem Zz(hb:qK prog w s.heap ks b)(h:Q false s):wpAny (model prog w) A (hashByValue 8 (.ref b)) Q E s:=by
 obtain⟨hk,x,r,rfl⟩:=hb;have' hT:_:=hk.typeIs;refine jy hk λo items n ho ZZ hd hi=>?_;obtain⟨l⟩:=items;cases hi with
 | @cons _ v _ vs h1 _ =>
  obtain⟨t,rfl⟩:=Value.isStrOf_shape (y7 h1);refine wpAny_bind (wpAny_specialOf hT F.slot_tuple_hash.lookup ?_);dsimp only;refine wpAny_bind (wpAny_seqItems ho hd ?_);dsimp only[Option.getD_some];refine aR M9 ?_;rw[List.forIn_cons];have' e:hashByValue 7 (.str x t)=pure false:=rfl;refine ae e ?_;exact wpAny_bind (wpAny_bind (wpAny_bind (wpAny_pure (wpAny_pure (wpAny_pure (wpAny_pure h))))))
theorem qK.keeps(x:qK prog w h ks b)(ho:h.get? a=some (jz es n t))(hs:Heap.SameBut a h h'):qK prog w h' ks b:=by
 obtain⟨⟨o',items,m,rm,hc,lg,hi⟩,y⟩:=x;have' aO:b≠a:=by
  rintro rfl;rw[ho]at rm;obtain rfl:=Option.some.inj rm;injection lg
 exact⟨⟨o',items,m,(hs.2 b aO).trans rm,hc,lg,hi⟩,y⟩
theorem Z0(ho:s.heap.get? a=some (jz es n t))(T:yS t es.length led)(g:yc (SetTable.sizeAbove wanted - 1))(hz:5*es.length<3*(SetTable.sizeAbove wanted - 1))(h:∀h' es' n' t',Heap.SameBut a s.heap h'->h'.get? a=some (jz es' n' t')->es'.Perm es->zT t' es'.length led->t'.mask=SetTable.sizeAbove wanted - 1->t'.finger=t.finger->t'.plain=t.plain->Q () { s with heap:=h' }):wpAny (model prog w) A (setRelay a wanted) Q E s:=by
 have' hf:t.fits es.toArray.size=true:=ae Kd T.fits;refine wpAny_bind (wpAny_setState_of ho rfl hf ?_);dsimp only;have' big:¬SetTable.sizeAbove wanted > sizeLine:=by refine ae sizeLine_eq ?_;rcases g with e | e | e | e <;> exact Ot e rfl
 refine ae (if_neg big) ?_;obtain⟨t',order,e1,e2,e3,e4⟩:=Zw (finger:=t.finger) (moves:=t.movedTo (SetTable.sizeAbove wanted - 1)) (led:=t.led) (plain:=t.plain) g (es.toArray.map (·.1)) (ae Vv (ae Kd hz));rw[Array.size_map]at e4;rw[Array.size_map,List.size_toArray]at e2;have hs:(order.filterMap (es.toArray[·]?)).size=es.toArray.size:=Zx e4;have rel:t.relaid (es.toArray.map (·.1)) wanted=some (t',order):=e1;refine ae rel ?_;have fp:t'.finger=t.finger/\t'.plain=t.plain:=by
  unfold SetTable.laid at e1;cases q:SetTable.layClean (SetTable.sizeAbove wanted - 1) (es.toArray.map (·.1)) with
  | none=>rw[q]at e1;injection e1
  | some owner=>rw[q]at e1;injection e1 with zz1;injection zz1 with zz2 zz3;obtain rfl:=zz2;obtain rfl:=zz3;exact⟨rfl,rfl⟩
 refine wpAny_bind (m:=do
  let es':=order.filterMap (es.toArray[·]?)
  if es'.size != es.toArray.size then unsupported "internal:set-table-lost-an-element"
  pure (es',t')) ?_
 dsimp only;refine ae hs ?_;rw[bne_self_eq_false];refine ae (if_neg Kn) ?_;refine wpAny_pure ?_;dsimp only;have aS:(order.filterMap (es.toArray[·]?)).size=es.length:=ae hs (ae Kd rfl);refine wpAny_storeSet_of ho rfl ?_ (by refine ae aS ?_;refine ae sizeLine_eq ?_;exact Hq hz (nW g).2);refine h _ (order.filterMap (es.toArray[·]?)).toList _ t' (Heap.SameBut.update ..) (qt ho _ t') (gx e4) ?_ e3 fp.1 fp.2;refine ae K7 ?_;refine ae aS ?_;exact T.5▸e2
theorem XR(hu:A.units<cLine)(ho:s.heap.get? a=some (jz es n t))(TE:Yc prog w s.heap es)(T:zT t es.length led)(hb:qK prog w s.heap ks b)(hz:es.length<=14)(h1:C8 prog w s.heap es ks->Q false s)(h2:∀h' es' n' t',Heap.SameBut a s.heap h'->h'.get? a=some (jz es' n' t')->es'.Perm (es++[(tupleKeyHash (zB prog w) ks,.ref b)])->zT t' es'.length led->Q true { s with heap:=h' }):
  wpAny (model prog w) A (setAddHashed a (.ref b) (tupleKeyHash (zB prog w) ks)) Q E s:=by
 have hf:t.fits es.toArray.size=true:=ae Kd T.wide.fits;refine wpAny_holding (wpAny_bind (wpAny_setState_of ho rfl hf ?_));dsimp only;have' nb:byScan (.ref b) es.toArray=false:=rfl;refine ae nb ?_;refine ae (if_neg Kn) ?_;refine zt (T.lY (tupleKeyHash (zB prog w) ks)) λk hk he=>?_;have' uC:t.mask<=63:=(nW T.4).2;refine wpAny_bind (Qm hu ho TE T hb 100000 k none (Rk hk uC) (by exact HB hk) rfl he (λq=>wpAny_pure (h1 q)) λj hj=>?_);dsimp only;refine wpAny_bind (wpAny_setState_of ho rfl hf ?_);dsimp only;have W1:=T.put hj;have p1:(SetTable.insertAt es.toArray (t.put j).2 (tupleKeyHash (zB prog w) ks,Value.ref b)).toList.Perm (es++[(tupleKeyHash (zB prog w) ks,.ref b)]):=by
  refine(Vf _ _ _).trans ?_;refine ae Ve ?_;rfl
 have z1:(SetTable.insertAt es.toArray (t.put j).2 (tupleKeyHash (zB prog w) ks,Value.ref b)).size=es.length+1:=by rewrite [qV];refine ae Kd ?_;rfl
 have uB:∀(t2:SetTable),yS t2 (es.length+1) led->wpAny (model prog w) A (do
   storeSet a (SetTable.insertAt es.toArray (t.put j).2 (tupleKeyHash (zB prog w) ks,Value.ref b)) t2
   if (!false&&t2.tooFull)=true then do
     setRelay a (SetTable.grown (es.toArray.size+1))
     pure true
    else pure true) Q E s:=by
  intro t2 W2;refine wpAny_bind (wpAny_storeSet_of ho rfl ?_ (ae z1 (ae sizeLine_eq (JU hz rfl))));have da:=qt ho (SetTable.insertAt es.toArray (t.put j).2 (tupleKeyHash (zB prog w) ks,Value.ref b)) t2;have sb:=Heap.SameBut.update s.heap a (Obj.putSet (SetTable.insertAt es.toArray (t.put j).2 (tupleKeyHash (zB prog w) ks,Value.ref b)) t2);by_cases c:t2.tooFull=true
  ·simp only[c,Bool.not_false,Bool.and_self,if_true];have' h4:4<es.length+1:=by
    unfold SetTable.tooFull at c;rw[W2.fill]at c;simp at c;exact Xv c (nW W2.4).1
   refine bE (xF (n:=es.length+1) (JU hz rfl) h4) λg r=>?_;have zl:(SetTable.insertAt es.toArray (t.put j).2 (tupleKeyHash (zB prog w) ks,Value.ref b)).toList.length=es.length+1:=ae K7 (ae z1 rfl);refine ae Kd ?_;refine wpAny_bind (Z0 da (ae zl W2) g (ae zl r) λh' es' n' t' a1 a2 a3 a4 ZZ ZZ ZZ=>?_);exact wpAny_pure (h2 h' es' n' t' (sb.trans a1) a2 (a3.trans p1) a4)
  ·have c':t2.tooFull=false:=by simpa using c
   rw[c',Bool.and_false];refine ae (if_neg Kn) ?_;refine wpAny_pure (h2 _ _ _ t2 sb da p1 ?_);refine ae K7 ?_;refine ae z1 ?_;exact W2.ok c'
 split
 ·refine wpAny_bind (Zz hb ?_);exact uB _ W1.l0
 ·refine wpAny_bind (wpAny_pure ?_);exact uB _ W1
theorem ZA(hu:A.units<cLine)(ho:s.heap.get? a=some (jz es n t))(TE:Yc prog w s.heap es)(T:zT t es.length led)(hb:qK prog w s.heap ks b)(hz:es.length<=14)(h1:∀tk,C8 prog w s.heap es ks->Q false { s with toks:=tk })(h2:∀h' es' n' t' tk,Heap.SameBut a s.heap h'->h'.get? a=some (jz es' n' t')->es'.Perm (es++[(tupleKeyHash (zB prog w) ks,.ref b)])->zT t' es'.length led->Q true { s with heap:=h',toks:=tk }):
  wpAny (model prog w) A (setAdd a (.ref b)) Q E s:=by
 refine wpAny_holding (wpAny_bind (wpAny_pyHash_tuple hu hb.1 ?_));exact XR (s:={ s with toks:=_ }) hu ho TE T hb hz (h1 _) λh' es' n' t' a1 a2 a3 a4=>h2 h' es' n' t' _ a1 a2 a3 a4
end
end
section
set_option genSizeOf false
set_option genInjectivity false
open PySem PySem.W PySem.Calls PyProof.Rows
theorem wb:Manifest.owners.lookup (String.ofList ['r','o','t','a','r','e','t','i','_','t','e','s'].reverse)=some Manifest.sig_set_iterator:=by kernel_rfl
theorem zv:Slot "set_iterator" "__next__" "set_iterator.__next__" :=
 .of (owner:="set_iterator") (n:="__next__") (by rewrite [typeLookup_type];refine ae builtinLookup_eq_fast ?_;kernel_rfl) (by decide +kernel) (by decide +kernel) (by decide +kernel)
  (by first | exact .inl (by decide +kernel) | exact .inr (by decide +kernel)) (by rw[isSubtype_type];kernel_rfl)
theorem jt:entryFor table "set_iterator.__next__"=some Builtin.«set_iterator.__next__» := entryFor_of_tree (by kernel_rfl)
theorem jo(a:Value):argsOk "set_iterator.__next__" ⟨[a],[]⟩:=by
 refine ae (signature?_of (id:="set_iterator.__next__") (n:=['_','_','t','x','e','n','_','_']) (o:=['r','o','t','a','r','e','t','i','_','t','e','s']) (by kernel_rfl) wb) ?_;kernel_rfl
theorem Ye:entryFor table "set.__iter__"=some Builtin.«frozenset.__iter__» :=
 entryFor_alias (id':="frozenset.__iter__") (by kernel_rfl) rfl (by decide +kernel) (by kernel_rfl)
theorem XS:entryFor table "set.__eq__"=some Builtin.«frozenset.__eq__» :=
 entryFor_alias (id':="frozenset.__eq__") (by kernel_rfl) rfl (by decide +kernel) (by kernel_rfl)
noncomputable abbrev qW(first:Value)(i:Int)(s:Value)(n ep:Int):Obj:={ cls:=.type "set_iterator",data:=.fields #[first,rawInt i,s,rawInt n,rawInt ep] }
end
section
set_option genSizeOf false
set_option genInjectivity false
open PySem PySem.W PySem.Calls PyProof.Rows
section
variable {prog:Program} {w:World} {A:Around} {E:Value->Shared->Prop} {s:Shared}
theorem gR{ep i slot nxt:Nat}(hI:s.heap.get? I=some (qW (rawInt slot) i (.ref a) es.length ep))(ha:s.heap.get? a=some (jz es ep t))(W:yS t es.length (!zW w))(aO:a≠I)(hn:∀{Q':Option (Value × Nat)->Shared->Prop} {E':Value->Shared->Prop},Q' (some (x,nxt)) s->wpAny (model prog w) A.in1 (setNext a slot i ep) Q' E' s)(h:∀h',Heap.SameBut I s.heap h'->h'.get? I=some (qW (rawInt nxt) ((i+1:Nat):Int) (.ref a) es.length ep)->Q (some x) { s with heap:=h' }):
  wpAny (model prog w) A (pyNext (.ref I)) Q E s:=by
 have hT:s.TypeIs (.ref I) "set_iterator":=⟨_,hI,rfl⟩;have' hf:t.fits es.toArray.size=true:=ae Kd W.fits;refine wpAny_bind (wpAny_attempt (wpAny_callSpecial?_slot (name:=Str.ofString "__next__") hT zv
  (wpAny_call_entry zv hT jt ?_ (jo _))))
 refine wpAny_bind (m:=slotArgs "__next__" 0 ⟨[Value.ref I],[]⟩) (wpAny_of_eq (a:=(Value.ref I,([]:List Value))) (by rfl) ?_);refine wpAny_bind (wpAny_fieldsOf hI rfl ?_);refine wpAny_bind (wpAny_setEntries_of ha rfl hf ?_);have' e1:((es.toArray.size:Int) != (es.length:Int))=false:=(bne_self_eq_false _);refine ae e1 ?_;refine ae (if_neg Kn) ?_;have' n1:Int.toNat (slot:Int)=slot:=Lx _;have' n2:Int.toNat (i:Int)=i:=Lx _;have' n3:Int.toNat (ep:Int)=ep:=Lx _;refine(?_:wpAny _ _ (setNext a (Int.toNat (slot:Int)) (Int.toNat (i:Int)) (Int.toNat (ep:Int)) >>= _) _ _ s);refine ae n1 ?_;refine ae n2 ?_;refine ae n3 ?_;refine wpAny_bind (hn ?_);refine wpAny_bind (wpAny_setField_rec hI (Kv _) λh1 g1 b1=>?_);refine wpAny_bind (wpAny_setField_rec (s:={ s with heap:=h1 }) g1 (Kq _ _) λh2 g2 b2=>?_);refine wpAny_pure ⟨_,rfl,wpAny_pure (h h2 (b1.trans b2) ?_)⟩;exact g2
theorem Yg{ep i:Nat}{ps:List Nat}{k:Nat}{m:Nat}(hI:s.heap.get? I=some (qW (.ref p) i (.ref a) es.length ep))(ha:s.heap.get? a=some (jz es ep t))(W:yS t es.length (!zW w))(hp:s.heap.get? p=some (wp (ps.map fun(i:Nat)=>rawInt i) m))(hk:ps[i]? = some k)(hx:(es[k]?).map (·.2)=some x)(h:∀h',Heap.SameBut I s.heap h'->h'.get? I=some (qW (.ref p) ((i+1:Nat):Int) (.ref a) es.length ep)->Q (some x) { s with heap:=h' }):
  wpAny (model prog w) A (pyNext (.ref I)) Q E s:=by
 have hT:s.TypeIs (.ref I) "set_iterator":=⟨_,hI,rfl⟩;have hf:t.fits es.toArray.size=true:=ae Kd W.fits;refine wpAny_bind (wpAny_attempt (wpAny_callSpecial?_slot (name:=Str.ofString "__next__") hT zv
  (wpAny_call_entry zv hT jt ?_ (jo _))))
 refine wpAny_bind (m:=slotArgs "__next__" 0 ⟨[Value.ref I],[]⟩) (wpAny_of_eq (a:=(Value.ref I,([]:List Value))) (by rfl) ?_);refine wpAny_bind (wpAny_fieldsOf hI rfl ?_);dsimp only;refine wpAny_bind (wpAny_setEntries_of ha rfl hf ?_);have' e1:((es.toArray.size:Int) != (es.length:Int))=false:=(bne_self_eq_false _);refine ae e1 ?_;refine ae (if_neg Kn) ?_;refine wpAny_bind (wpAny_seqItems hp rfl ?_);dsimp only;have' n2:Int.toNat (i:Int)=i:=Lx _;have' e2:((ps.map fun(i:Nat)=>rawInt i).toArray)[Int.toNat (i:Int)]? = some (rawInt k):=by
  refine ae n2 ?_;simp[hk]
 refine ae e2 ?_;refine(?_:wpAny _ _ (setNextDrawn a (Int.toNat (k:Int)) (Int.toNat (ep:Int)) >>= _) _ _ s);have' n1:Int.toNat (k:Int)=k:=Lx _;have' n3:Int.toNat (ep:Int)=ep:=Lx _;refine ae n1 ?_;refine ae n3 ?_;refine wpAny_bind (wpAny_bind (wpAny_setState_of ha rfl hf ?_));dsimp only;refine ae (if_neg (by simp)) ?_;cases e3:es[k]? with
 | none=>rw[e3]at hx;injection hx
 | some e =>
  rw[e3]at hx;obtain rfl:=Option.some.inj hx;have' e4:es.toArray[k]? = some (e.1,e.2):=by simp[e3]
  refine ae e4 ?_;refine wpAny_pure ?_;refine wpAny_bind (wpAny_setField_rec hI (Kq _ _) λh1 g1 b1=>?_);exact wpAny_pure ⟨_,rfl,wpAny_pure (h h1 b1 g1)⟩
theorem GQ(hh:A.handled=none)(e1:Heap.ExtBut I s.heap h₁)(h:∀h',Heap.ExtBut I s.heap h'->Q none { s with heap:=h' }):
  wpAny (model prog w) A.in1 (newExc (.type "StopIteration") [] >>= λe=>(raiseNew e:Sem Fin)) (λfin s'=>∃v,fin=Fin.done (.ret v)/\wpAny (model prog w) A (pure (some v)) Q E s')
   (λe s'=>wpAny (model prog w) A (do if <-isInstance e (.type "StopIteration") then pure none else throw e) Q E s') { s with heap:=h₁ }:=by
 refine wpAny_bind ?_;refine wpAny_bind (wpAny_newObj_type ?_ (by size_fits));refine wpAny_bind (m:=firstArgMember _ _) (wpAny_of_eq (a:=Value.none) (by first | rfl | (rfl)) ?_);refine wpAny_newObj_type ?_ (by size_fits);refine wpAny_bind (wpAny_handled ?_);first | refine ae (show A.in1.handled=none from hh) ?_ | rw[hh]
 refine wpAny_bind (wpAny_pure (wpAny_throw ?_));refine wpAny_bind (wpAny_isInstance (T:="StopIteration") (b:=true) ⟨_,Kl _ rfl,rfl⟩ isSubtype_stop ?_);exact wpAny_pure (h _ ((e1.push _).push _))
theorem gS{ep i slot:Nat}(hh:A.handled=none)(hI:s.heap.get? I=some (qW (rawInt slot) i (.ref a) es.length ep))(ha:s.heap.get? a=some (jz es ep t))(W:yS t es.length (!zW w))(hn:∀{Q':Option (Value × Nat)->Shared->Prop} {E':Value->Shared->Prop},Q' none s->wpAny (model prog w) A.in1 (setNext a slot i ep) Q' E' s)(h:∀h',Heap.ExtBut I s.heap h'->Q none { s with heap:=h' }):
  wpAny (model prog w) A (pyNext (.ref I)) Q E s:=by
 have hT:s.TypeIs (.ref I) "set_iterator":=⟨_,hI,rfl⟩;have' hf:t.fits es.toArray.size=true:=ae Kd W.fits;refine wpAny_bind (wpAny_attempt (wpAny_callSpecial?_slot (name:=Str.ofString "__next__") hT zv
  (wpAny_call_entry zv hT jt ?_ (jo _))))
 refine wpAny_bind (m:=slotArgs "__next__" 0 ⟨[Value.ref I],[]⟩) (wpAny_of_eq (a:=(Value.ref I,([]:List Value))) (by rfl) ?_);refine wpAny_bind (wpAny_fieldsOf hI rfl ?_);refine wpAny_bind (wpAny_setEntries_of ha rfl hf ?_);have' e1:((es.toArray.size:Int) != (es.length:Int))=false:=(bne_self_eq_false _);refine ae e1 ?_;refine ae (if_neg Kn) ?_;have' n1:Int.toNat (slot:Int)=slot:=Lx _;have' n2:Int.toNat (i:Int)=i:=Lx _;have' n3:Int.toNat (ep:Int)=ep:=Lx _;refine(?_:wpAny _ _ (setNext a (Int.toNat (slot:Int)) (Int.toNat (i:Int)) (Int.toNat (ep:Int)) >>= _) _ _ s);refine ae n1 ?_;refine ae n2 ?_;refine ae n3 ?_;refine wpAny_bind (hn ?_);refine wpAny_bind (wpAny_setField_rec hI (Kq _ _) λh1 g1 b1=>?_);exact GQ (s:=s) hh b1.extBut h
theorem Yh{ep i m:Nat}{ps:List Nat}(hh:A.handled=none)(hI:s.heap.get? I=some (qW (.ref p) i (.ref a) es.length ep))(ha:s.heap.get? a=some (jz es ep t))(W:yS t es.length (!zW w))(hp:s.heap.get? p=some (wp (ps.map fun(i:Nat)=>rawInt i) m))(hk:ps[i]? = none)(h:∀h',Heap.ExtBut I s.heap h'->Q none { s with heap:=h' }):
  wpAny (model prog w) A (pyNext (.ref I)) Q E s:=by
 have hT:s.TypeIs (.ref I) "set_iterator":=⟨_,hI,rfl⟩;have' hf:t.fits es.toArray.size=true:=ae Kd W.fits;refine wpAny_bind (wpAny_attempt (wpAny_callSpecial?_slot (name:=Str.ofString "__next__") hT zv
  (wpAny_call_entry zv hT jt ?_ (jo _))))
 refine wpAny_bind (m:=slotArgs "__next__" 0 ⟨[Value.ref I],[]⟩) (wpAny_of_eq (a:=(Value.ref I,([]:List Value))) (by rfl) ?_);refine wpAny_bind (wpAny_fieldsOf hI rfl ?_);refine wpAny_bind (wpAny_setEntries_of ha rfl hf ?_);have' e1:((es.toArray.size:Int) != (es.length:Int))=false:=(bne_self_eq_false _);refine ae e1 ?_;refine ae (if_neg Kn) ?_;refine wpAny_bind (wpAny_seqItems hp rfl ?_);dsimp only;have' n2:Int.toNat (i:Int)=i:=Lx _;have' e2:((ps.map fun(i:Nat)=>rawInt i).toArray)[Int.toNat (i:Int)]? = none:=by
  refine ae n2 ?_;simpa using hk
 refine ae e2 ?_;dsimp only;refine wpAny_bind (wpAny_setField_rec hI (Kv _) λh1 g1 b1=>?_);refine wpAny_bind (wpAny_setField_rec (s:={ s with heap:=h1 }) g1 (Kq _ _) λh2 g2 b2=>?_);exact GQ (s:=s) hh (b1.trans b2).extBut h
end
end
section
set_option genSizeOf false
set_option genInjectivity false
open PySem PySem.W PySem.Calls PyProof.Rows
section
variable {prog:Program} {w:World} {A:Around} {E:Value->Shared->Prop} {s:Shared}
theorem wF(b:zW w=true)(ha:s.heap.get? a=some (jz es ep t))(W:yS t es.length (!zW w))(h:Q (((pickOrder (w.params.setOrder a ep) es.toArray)[i]?).map λe=>(e.2,slot)) s):wpAny (model prog w) A (setNext a slot i ep) Q E s:=by
 have hf:t.fits es.toArray.size=true:=ae Kd W.fits;refine wpAny_bind (wpAny_setState_of ha rfl hf ?_);refine wpAny_bind (wpAny_bind (wpAny_askSetting (wpAny_pure ?_)));refine(?_:wpAny _ _ (if zW w=true then _ else _) _ _ _);refine ae (if_pos b) ?_;refine ae (if_neg (by simp)) ?_;refine wpAny_bind ?_;refine wpAny_bind (wpAny_setState_of ha rfl hf ?_);refine wpAny_bind (wpAny_bind (wpAny_askSetting (wpAny_pure ?_)));refine(?_:wpAny _ _ (if zW w=true then _ else _) _ _ _);refine ae (if_pos b) ?_;exact wpAny_bind (wpAny_askSetting (wpAny_pure (wpAny_pure h)))
theorem Z3(b:zW w=false)(c:(!t.plain&&decide (es.length > 1))=false)(ha:s.heap.get? a=some (jz es ep t))(W:yS t es.length (!zW w))(h:∀r,(∀e j,es[SetTable.below t.place slot]? = some e->t.place[SetTable.below t.place slot]? = some j->r=some (e.2,j+1))->(es[SetTable.below t.place slot]? = none->r=none)->Q r s):wpAny (model prog w) A (setNext a slot i ep) Q E s:=by
 have hf:t.fits es.toArray.size=true:=ae Kd W.fits;refine wpAny_bind (wpAny_setState_of ha rfl hf ?_);refine wpAny_bind (wpAny_bind (wpAny_askSetting (wpAny_pure ?_)));refine(?_:wpAny _ _ (if zW w=true then _ else _) _ _ _);refine ae (if_neg (by refine ae b ?_;exact Kn)) ?_;refine(?_:wpAny _ _ (if (!t.plain&&decide (es.toArray.size > 1))=true then _ else _) _ _ _);refine ae Kd ?_;refine ae (if_neg (by refine ae c ?_;exact Kn)) ?_;have hl:t.led=true:=ae W.5 (ae b rfl);refine wpAny_bind (m:=if (!t.led && !es.toArray.isEmpty)=true then unsupported "set:maker-not-led" else pure ()) ?_;refine ae hl ?_;refine wpAny_pure (wpAny_pure (h _ (λe j e1 e2=>?_) λe1=>?_))
 ·have e3:es.toArray[SetTable.below t.place slot]? = some (e.1,e.2):=by simpa using e1
  exact ae e3 (ae e2 rfl)
 ·have e3:es.toArray[SetTable.below t.place slot]? = none:=by simpa using e1
  exact ae e3 rfl
noncomputable def xT(w:World)(h:Heap)(I a:Addr)(es:List (Int × Value))(ep:Nat)(t:SetTable)(order:List Value)(i:Nat):Prop :=
 h.get? a=some (jz es ep t)/\
 ((zW w=true/\∃slot:Nat,h.get? I=some (qW (rawInt slot) i (.ref a) es.length ep)/\order=(pickOrder (w.params.setOrder a ep) es.toArray).toList.map fun(x:Int × Value)=>x.2)\/
 (zW w=false/\(!t.plain&&decide (es.length > 1))=false/\∃slot:Nat,h.get? I=some (qW (rawInt slot) i (.ref a) es.length ep)/\order=es.map (·.2)/\SetTable.below t.place slot=i)\/
 ∃(p:Addr) (ps:List Nat) (m:Nat),h.get? I=some (qW (.ref p) i (.ref a) es.length ep)/\h.get? p=some (wp (ps.map fun(i:Nat)=>rawInt i) m)/\p≠I/\ps.length=es.length/\order.length=ps.length/\∀(j k:Nat),ps[j]? = some k->(es[k]?).map (fun(x:Int × Value)=>x.2)=order[j]?)
theorem xT.item(T:zT t es.length (!zW w))(aO:a≠I)(st:xT w s.heap I a es ep t order i)(hx:order[i]? = some x)(h:∀h',Heap.SameBut I s.heap h'->xT w h' I a es ep t order (i+1)->Q (some x) { s with heap:=h' }):wpAny (model prog w) A (pyNext (.ref I)) Q E s:=by
 obtain⟨ha,⟨b,slot,hI,ho⟩ | ⟨b,c,slot,hI,ho,hb⟩ | ⟨p,ps,m,hI,hp,tC,hl,dQ,hk⟩⟩:=st
 ·have e:(pickOrder (w.params.setOrder a ep) es.toArray)[i]?.map (·.2)=some x:=by
   rw[ho]at hx;simpa using hx
  refine gR (nxt:=slot) hI ha T.wide aO (fun {Q' E'} q=>wF b ha T.wide ?_) λh' hs eW=>h h' hs ⟨(hs.2 a aO).trans ha,.inl ⟨b,slot,eW,ho⟩⟩;cases e2:(pickOrder (w.params.setOrder a ep) es.toArray)[i]? with
  | none=>rw[e2]at e;injection e
  | some y=>rw[e2]at e;obtain rfl:=Option.some.inj e;exact q
 ·rw[ho]at hx;have aC:i<es.length:=by
   have:=(Kb.mp hx).1;simpa using this
  have hp:i<t.place.size:=ae T.1 aC;refine gR (nxt:=t.place[i]+1) hI ha T.wide aO (fun {Q' E'} q=>Z3 b c ha T.wide λr r1 r2=>?_) λh' hs eW=>h h' hs ⟨(hs.2 a aO).trans ha,.inr (.inl ⟨b,c,t.place[i]+1,eW,ho,(GP T.6 hp).2⟩)⟩;rw[hb]at r1;rw[List.getElem?_map,List.getElem?_eq_getElem aC]at hx;obtain rfl:=Option.some.inj hx;refine ae (r1 _ _ (Ka aC) (Mi hp)) ?_;exact q
 ·have aC:i<ps.length:=by refine aR dQ ?_;exact(Kb.mp hx).1
  have e:=Ka aC;have k1:=hk i _ e;refine Yg hI ha T.wide hp e (k1.trans hx) λh' hs eW=>h h' hs ⟨(hs.2 a aO).trans ha,.inr (.inr ⟨p,ps,m,eW,(hs.2 p tC).trans hp,tC,hl,dQ,hk⟩)⟩
theorem xT.stop(hh:A.handled=none)(T:zT t es.length (!zW w))(st:xT w s.heap I a es ep t order order.length)(h:∀h',Heap.ExtBut I s.heap h'->Q none { s with heap:=h' }):wpAny (model prog w) A (pyNext (.ref I)) Q E s:=by
 obtain⟨ha,⟨b,slot,hI,ho⟩ | ⟨b,c,slot,hI,ho,hb⟩ | ⟨p,ps,m,hI,hp,tC,hl,dQ,hk⟩⟩:=st
 ·refine gS hh hI ha T.wide (fun {Q' E'} q=>wF b ha T.wide ?_) h;have e:(pickOrder (w.params.setOrder a ep) es.toArray)[order.length]? = none:=by
   refine ae ho ?_;simp
  exact ae e q
 ·refine gS hh hI ha T.wide (fun {Q' E'} q=>Z3 b c ha T.wide λr r1 r2=>?_) h;rw[hb]at r2;refine ae (r2 (by refine ae ho ?_;exact List.getElem?_eq_none (by simp only[List.length_map];exact Kz _))) ?_;exact q
 ·exact Yh hh hI ha T.wide hp (by simp[dQ]) h
theorem yJ(h:ob.cls = .type T)(n:(T == "list")=false):∀xs m,ob≠ji xs m:=λxs m e=>by
 rw[e]at h;injection h with h;rw[<-h]at n;exact absurd n (by decide)
theorem xT.frame(st:xT w h I a es ep t order i)(hL:∀ob,h.get? L=some ob->∃xs n,ob=ji xs n)(hs:∀b ob,b≠L->h.get? b=some ob->h'.get? b=some ob):xT w h' I a es ep t order i:=by
 have keep:∀{b:Addr} {ob:Obj},h.get? b=some ob->(∀xs n,ob≠ji xs n)->h'.get? b=some ob:=fun {b ob} e ne=>hs b ob (λq=>by
  subst q;refine Ja (hL _ e) λxs n e'=>?_;exact ne xs n e') e
 obtain⟨ha,⟨b,slot,hI,ho⟩ | ⟨b,c,slot,hI,ho,hb⟩ | ⟨p,ps,m,hI,hp,tC,hl,dQ,hk⟩⟩:=st
 ·exact⟨keep ha (yJ (T:="set") rfl rfl),.inl ⟨b,slot,keep hI (yJ (T:="set_iterator") rfl rfl),ho⟩⟩
 ·exact⟨keep ha (yJ (T:="set") rfl rfl),.inr (.inl ⟨b,c,slot,keep hI (yJ (T:="set_iterator") rfl rfl),ho,hb⟩)⟩
 ·exact⟨keep ha (yJ (T:="set") rfl rfl),.inr (.inr ⟨p,ps,m,keep hI (yJ (T:="set_iterator") rfl rfl),keep hp (yJ (T:="tuple") rfl rfl),tC,hl,dQ,hk⟩)⟩
theorem ZB(ha:s.heap.get? a=some (jz es ep t))(T:zT t es.length (!zW w))(hz:es.length<=1000)(h:∀order I h' d,order.Perm (es.map (·.2))->xT w h' I a es ep t order 0->s.heap.objs.size<=I->(∀b ob,s.heap.get? b=some ob->h'.get? b=some ob)->Q (.ref I) { s with heap:=h',drawn:=d }):wpAny (model prog w) A (pyIter (.ref a)) Q E s:=by
 have hT:s.TypeIs (.ref a) "set":=⟨_,ha,rfl⟩;have hf:t.fits es.toArray.size=true:=ae Kd T.wide.fits;refine wpAny_pyIter_slot hT F.slot_set_iter (wpAny_call_entry F.slot_set_iter hT Ye ?_ (F.args_set_iter_1 _));refine wpAny_bind (m:=Builtin.Frozenset.slot0 "__iter__" ⟨[Value.ref a],[]⟩) (wpAny_of_eq (a:=a) (by rfl) ?_);refine wpAny_bind (wpAny_bind (wpAny_setEntries_of ha rfl hf (wpAny_pure ?_)));refine wpAny_bind (wpAny_bind (wpAny_setState_of ha rfl hf ?_));refine wpAny_bind (wpAny_bind (wpAny_askSetting (wpAny_pure ?_)));refine wpAny_pure ?_;have C9:∀(x:Bool),(!(w.params.followText "set-order")&&x)=(!zW w&&x):=λZZ=>rfl;refine(?_:wpAny _ _ (if (!zW w&&(!t.plain&&decide (es.toArray.size > 1)))=true then _ else _) _ _ s);have fin:∀(first:Value) (s':Shared),s'.heap.get? a=some (jz es ep t)->(∀b ob,s.heap.get? b=some ob->s'.heap.get? b=some ob)->(∃d,s'={ s with heap:=s'.heap,drawn:=d })->s.heap.objs.size<=s'.heap.objs.size->
   (∀h' I,s'.heap.objs.size=I->h'=s'.heap.push (qW first 0 (.ref a) es.length ep)->∃order,order.Perm (es.map (·.2))/\xT w h' I a es ep t order 0)->
   wpAny (model prog w) A.in1 (do
    let __do_lift <-setEpoch a
    let __do_lift <-newFields "set_iterator" [first,rawInt 0,Value.ref a,rawInt es.toArray.size,rawInt __do_lift]
    ret __do_lift) (λfin s'=>∃v,fin=Fin.done (Flow.ret v)/\∃T' r,s'.TypeIs v T'/\typeLookup (Value.type T') (Str.ofString "__next__")=pure (some r)/\Q v s') E s':=by
  intro first s' iD old ix bT mk;refine wpAny_bind (wpAny_setEpoch_of iD rfl hf ?_);refine wpAny_bind (m:=newFields _ _) (wpAny_newObj_type (wpAny_pure ⟨_,rfl,"set_iterator",_,⟨_,Kl _ rfl,rfl⟩,zv.lookup,?_⟩) (by size_fits));refine zt (mk _ _ rfl rfl) λorder hp st=>?_;refine aB ix λd e=>?_;have:=h order _ _ d hp st bT λb ob q=>Ke _ (old b ob q);refine ae e ?_;exact this
 have cq:es.toArray.size=es.length:=Kd;by_cases c:(!zW w&&(!t.plain&&decide (es.toArray.size > 1)))=true
 ·refine ae (if_pos c) ?_;refine wpAny_bind (qC Mv λps d hp=>?_);refine wpAny_bind (wpAny_newTuple ?_ (by rewrite [List.length_map];refine ae hp.length_eq ?_;refine ae Mv ?_;refine ae cq ?_;refine ae sizeLine_eq ?_;exact zS hz rfl));have uD:(s.heap.push { cls:=.type "tuple",data:=.seq (ps.map fun(i:Nat)=>rawInt i).toArray }).get? s.heap.objs.size=some (wp (ps.map fun(i:Nat)=>rawInt i) 0):=Kl _ rfl;refine fin (.ref s.heap.objs.size) { s with heap:=s.heap.push _,drawn:=d } (Ke _ ha) (λb ob q=>Ke _ q) ⟨d,rfl⟩ (by rw[Heap.size_push];exact Lq _) λh' I hI he=>?_;subst hI he;rw[cq]at hp;have lps:ps.length=es.length:=ae hp.length_eq (ae Mv rfl);refine⟨ps.map λk=>(es.getD k (0,.none)).2,?_,Ke _ (Ke _ ha),.inr (.inr ⟨s.heap.objs.size,ps,0,Kl _ rfl,Ke _ uD,?_,lps,by rw[List.length_map],?_⟩)⟩
  ·refine(hp.map _).trans (List.Perm.of_eq ?_)
   apply M2
   ·simp
   ·intro k h1 h2;simp at h1;simp[List.getD_eq_getElem?_getD,h1]
  ·refine(?_:s.heap.objs.size≠(s.heap.push _).objs.size);rw[Heap.size_push];exact K6 (Ln _)
  ·intro j k hj;have hk:k<es.length:=K8.mp (hp.mem_iff.mp (Kx hj));refine ae Lf ?_;refine ae hj ?_;refine ae (Ka hk) ?_;simp[List.getD_eq_getElem?_getD,hk]
 ·refine ae (if_neg c) ?_;refine wpAny_bind (wpAny_pure ?_);refine fin (rawInt 0) s ha (λZZ ZZ q=>q) ⟨s.drawn,rfl⟩ (Kz _) λh' I hI he=>?_;subst hI he;cases b:zW w with
  | true=>exact⟨_,by simpa using (xQ (w.params.setOrder a ep) es.toArray).map (fun(x:Int × Value)=>x.2),Ke _ ha,.inl ⟨b,0,Kl _ rfl,rfl⟩⟩
  | false =>
   rw[b,cq]at c;have c':(!t.plain&&decide (es.length > 1))=false:=by simpa using c
   refine⟨_,List.Perm.refl _,Ke _ ha,.inr (.inl ⟨b,c',0,Kl _ rfl,rfl,?_⟩)⟩;refine JR (xn T.6 0) λx1 x2 x3=>?_;cases q:SetTable.below t.place 0 with
   | zero=>rfl
   | succ m =>
    have:=x2 0 (Rl q x1) (Xw q);exact absurd this (K4 _)
end
end
section
set_option genSizeOf false
set_option genInjectivity false
open PySem PySem.W PySem.Calls PyProof.Rows
theorem zdV(hT:s.TypeIs (.ref r) "set")(h:Q false s):wpAny (model prog w) A (Builtin.List.listLengthHint (.ref r)) Q E s:=by
 refine wpAny_bind (wpAny_specialOf hT PySem.F.slot_set_len.lookup ?_);generalize KG:("set.__len__":String)=id0
 wp_delta
 refine ae (show splitId id0=some ("set","__len__") from by subst KG;decide +kernel) ?_;subst KG;refine wpAny_bind (wpAny_isInstance (T:="set") (b:=true) hT (by rw[isSubtype_type];kernel_rfl) ?_);refine wpAny_ite_split (λeM=>absurd eM (by decide)) (λZZ=>?_);refine wpAny_ite_split (λZZ=>?_) (λeM=>absurd (by decide +kernel) eM);refine wpAny_bind (wpAny_typeOf hT ?_);exact wpAny_pure h
structure Bq (prog:Program) (w:World) (x:Addr) where
 T:String
 base:Heap->Prop
 ok:List Value->Prop
 It:List Value->Addr->Nat->Heap->Prop
 type:∀{s:Shared},base s.heap->s.TypeIs (.ref x) T
 notList:(Value.type T == Value.type "list")=false
 notTuple:(Value.type T == Value.type "tuple")=false
 always:["set","frozenset","dict","dict_keys","dict_values","dict_items"].any (Value.type T == .type ·)=true
 grows:∀{h h':Heap},base h->(∀b ob,h.get? b=some ob->h'.get? b=some ob)->base h'
 hint:∀{A:Around} {E:Value->Shared->Prop} {s:Shared} {Q:Bool->Shared->Prop},base s.heap->Q false s->wpAny (model prog w) A (Builtin.List.listLengthHint (.ref x)) Q E s
 iter:∀{A:Around} {E:Value->Shared->Prop} {s:Shared} {Q:Value->Shared->Prop},base s.heap->(∀order I h' d,ok order->It order I 0 h'->s.heap.objs.size<=I->(∀b ob,s.heap.get? b=some ob->h'.get? b=some ob)->Q (.ref I) { s with heap:=h',drawn:=d })->wpAny (model prog w) A (pyIter (.ref x)) Q E s
 frame:∀{order I i} {h h':Heap} {L:Addr},It order I i h->(∀ob,h.get? L=some ob->∃xs n,ob=ji xs n)->(∀b ob,b≠L->h.get? b=some ob->h'.get? b=some ob)->It order I i h'
 there:∀{order I i} {h:Heap},It order I i h->∃ob,h.get? I=some ob/\∀xs n,ob≠ji xs n
 item:∀{A:Around} {E:Value->Shared->Prop} {s:Shared} {order I i v} {Q:Option Value->Shared->Prop},ok order->It order I i s.heap->order[i]? = some v->(∀h',Heap.SameBut I s.heap h'->It order I (i+1) h'->Q (some v) { s with heap:=h' })->wpAny (model prog w) A (pyNext (.ref I)) Q E s
 stop:∀{A:Around} {E:Value->Shared->Prop} {s:Shared} {order I} {Q:Option Value->Shared->Prop},A.handled=none->ok order->It order I order.length s.heap->(∀h',Heap.ExtBut I s.heap h'->Q none { s with heap:=h' })->wpAny (model prog w) A (pyNext (.ref I)) Q E s
section
variable {prog:Program} {w:World} {A:Around} {E:Value->Shared->Prop} {s:Shared}
theorem zcw(l:List Value)(i:Nat)(h:i<l.length):(l.take i).toArray.push l[i]=(l.take (i+1)).toArray:=by
 apply Array.toList_inj.mp
 refine ae Ve ?_;refine(?_:l.take i++[l[i]]=l.take (i+1));exact ae (Vg h) rfl
theorem zcx:Obj.mapSeq (·.push v) (ji l n)=ji (l++[v]) (n+1):=by
 unfold Obj.mapSeq;simp
theorem GR{x:Addr}(P:Bq prog w x){I L:Addr}{order:List Value}{res:Value}{R:Result->Shared->Prop}(hh:A.handled=none)(cx:P.ok order)(hz:order.length<=1000):
  ∀(k i:Nat) (s:Shared) (n:Nat),order.length - i=k->i<=order.length->P.It order I i s.heap->s.heap.get? L=some (ji (order.take i) n)->
   (∀h' n',(∀b ob,b≠L->b≠I->s.heap.get? b=some ob->h'.get? b=some ob)->h'.get? L=some (ji order n')->R (.ok (.ret res)) { s with heap:=h' })->
   codeAny (model prog w) A (.builtin "list.extend.loop" ⟨[.ref L,.ref I,res],[]⟩) R s:=by
 intro k;induction k with
 | zero =>
  intro i s n hk hi st hL hR;have' e:i=order.length:=CD hk hi;subst e;refine codeAny_builtin F.entry_extend_loop ?_;refine ae (Around.under_plainId F.plain_extend_loop _) ?_;refine(?_:wpAny _ A.in1 (pyNext (.ref I) >>= _) _ _ s);refine wpAny_bind (P.stop (A:=A.in1) (by simp[hh]) cx st λh' hs=>?_);rw[List.take_length]at hL;refine zt (P.there st) λob hI aO=>?_;have' tD:L≠I:=λe=>by rw[e,hI]at hL;obtain rfl:=Option.some.inj hL;exact aO _ _ rfl
  exact wpAny_pure (hR h' n (λb ob ZZ nb e=>hs b ob nb e) (hs L _ tD hL))
 | succ k ih =>
  intro i s n hk hi st hL hR;have aC:i<order.length:=CH hk hi;have' hx:order[i]? = some order[i]:=Ka aC;refine codeAny_builtin F.entry_extend_loop ?_;refine ae (Around.under_plainId F.plain_extend_loop _) ?_;refine(?_:wpAny _ A.in1 (pyNext (.ref I) >>= _) _ _ s);refine zt (P.there st) λob hI aO=>?_;have' tD:L≠I:=λe=>by rw[e,hI]at hL;obtain rfl:=Option.some.inj hL;exact aO _ _ rfl
  refine wpAny_bind (P.item cx st hx λh' hs o5=>?_);have Dc:h'.get? L=some (ji (order.take i) n):=(hs.2 L tD).trans hL;refine(?_:wpAny _ A.in1 (updateSeq L (·.push order[i]) >>= _) _ _ _);refine wpAny_bind ?_;have' e1:_:=zcw order i aC;have' hU:(h'.update L (Obj.mapSeq (·.push order[i]))).get? L=some (ji (order.take (i+1)) (n+1)):=by
   have' this:_:=Le (Obj.mapSeq (·.push order[i])) Dc rfl;refine this.trans ?_;exact ae zcx (ae (Vg aC) rfl)
  refine wpAny_updateSeq Dc rfl (wpAny_pure ⟨plainId_quiet F.plain_extend_loop _,ih (i+1) _ (n+1) (CI hk aC hi) aC ?_ hU λdN n' oZ Dd=>?_⟩)
   (ae Kd (ae M3 (ae sizeLine_eq (PD aC hi hz rfl)))) (by refine(?_:((order.take i).toArray.push order[i]).size<=sizeLine+1);refine ae e1 ?_;refine ae Kd ?_;refine ae M3 ?_;refine ae sizeLine_eq ?_;exact PE aC hz rfl)
  ·refine P.frame (L:=L) o5 (λob e=>⟨_,_,Option.some.inj (e.symm.trans Dc)⟩) λb ob nb e=>(Li _ _ (Ne.symm nb)).trans e
  ·refine hR dN n' (λb ob nL nI e=>oZ b ob nL nI ((Li _ _ (Ne.symm nL)).trans ((hs.2 b nI).trans e))) Dd
theorem XT{x:Addr}(P:Bq prog w x){Q:List Value->Shared->Prop}(hh:A.handled=none)(hb:P.base s.heap)(hz:∀order,P.ok order->order.length<=1000)(h:∀order h' d,P.ok order->(∀b ob,s.heap.get? b=some ob->h'.get? b=some ob)->s.heap.objs.size<=h'.objs.size->Q order { s with heap:=h',drawn:=d }):wpAny (model prog w) A (collect (.ref x)) Q E s:=by
 have' hT:_:=P.type hb;refine wpAny_bind (wpAny_runValue (codeAny_builtin F.entry_proto_collect ?_));refine ae (Around.under_plainId F.plain_proto_collect _) ?_;refine(?_:wpAny _ A.in1 (newList [] >>= λl=>again (.builtin "list.__iadd__" ⟨[l,.ref x],[]⟩)) _ _ s);refine wpAny_bind (wpAny_newObj_type ?_);refine wpAny_pure ⟨plainId_quiet F.plain_list_iadd _,codeAny_builtin F.entry_list_iadd ?_⟩;refine ae (Around.under_plainId F.plain_list_iadd _) ?_;have mc:∀b ob,s.heap.get? b=some ob->(s.heap.push { cls:=.type "list",data:=.seq ([]:List Value).toArray }).get? b=some ob:=λb ob e=>Ke _ e;have fQ:=P.grows hb mc;have' De:(s.heap.push { cls:=.type "list",data:=.seq ([]:List Value).toArray }).get? s.heap.objs.size=some (ji [] 0):=Kl _ rfl;have' uE:s.heap.objs.size≠x:=by
  refine zV hT λob e ZZ=>?_;exact Ne.symm (K6 (La e))
 refine(?_:wpAny _ A.in1 (Builtin.List.listExtendWith (.ref s.heap.objs.size) (.ref x) (.ref s.heap.objs.size)) _ _ _);refine wpAny_bind (wpAny_typeOf (P.type (s:={ s with heap:=s.heap.push { cls:=.type "list",data:=.seq ([]:List Value).toArray } }) fQ) ?_);have' h1:Builtin.List.listSameRef (.ref s.heap.objs.size) (.ref x)=false:=by simp[Builtin.List.listSameRef,uE]
 rw[h1,P.notList,P.notTuple,Bool.or_false];refine ae (if_neg Kn) ?_;refine wpAny_bind (P.iter (s:={ s with heap:=s.heap.push { cls:=.type "list",data:=.seq ([]:List Value).toArray } }) fQ λorder I h' d cx st hI iE=>?_);refine wpAny_bind (wpAny_holding ?_);refine P.hint (s:={ s with heap:=h',drawn:=d }) (P.grows fQ iE) ?_;have' al:(false||["set","frozenset","dict","dict_keys","dict_values","dict_items"].any (Value.type P.T == .type ·))=true:=ae P.always rfl;refine(?_:wpAny _ A.in1 (if (false||["set","frozenset","dict","dict_keys","dict_values","dict_items"].any (Value.type P.T == .type ·))=true then(rule "list.extend.makes-room" >>= λZZ=>Builtin.List.listTouch (.ref s.heap.objs.size) >>= λZZ=>_) else _) _ _ _);refine ae (if_pos al) ?_;refine wpAny_bind (wpAny_rule ?_);have tE:h'.get? s.heap.objs.size=some (ji [] 0):=iE _ _ De;refine wpAny_bind ?_;refine(?_:wpAny _ A.in1 (updateSeq s.heap.objs.size (·.push .none) >>= λZZ=>updateSeq s.heap.objs.size (·.pop)) _ _ _);refine wpAny_bind (wpAny_updateSeq tE rfl ?_);have uF:=Le (Obj.mapSeq (·.push Value.none)) tE rfl;refine wpAny_updateSeq uF rfl ?_;have' Df:_:=Le (Obj.mapSeq (·.pop)) uF rfl;have tF:∀b ob,b≠s.heap.objs.size->h'.get? b=some ob->((h'.update s.heap.objs.size (Obj.mapSeq (·.push Value.none))).update s.heap.objs.size (Obj.mapSeq (·.pop))).get? b=some ob :=
  λb o hb e=>(Li _ _ (Ne.symm hb)).trans ((Li _ _ (Ne.symm hb)).trans e)
 have' Dg:∃n,((h'.update s.heap.objs.size (Obj.mapSeq (·.push Value.none))).update s.heap.objs.size (Obj.mapSeq (·.pop))).get? s.heap.objs.size=some (ji (order.take 0) n):=⟨_,Df⟩;refine aB Dg λn5 Dg=>?_;refine wpAny_pure ⟨plainId_quiet F.plain_extend_loop _,GR P hh cx (hz order cx) order.length 0 _ n5 rfl (Kt _) (P.frame (L:=s.heap.objs.size) st (λob e=>⟨[],0,Option.some.inj (e.symm.trans tE)⟩) tF) Dg λdN n' hk KH=>?_⟩;refine(?_:wpAny _ A (load s.heap.objs.size >>= _) _ _ _);refine wpAny_bind (wpAny_load KH ?_);have' old:∀b ob,s.heap.get? b=some ob->dN.get? b=some ob:=λb ob e=>by
  have lt:=La e;have nL:b≠s.heap.objs.size:=K6 lt;have' nI:b≠I:=by
   refine K6 (Lh lt (Ks ?_ hI));refine(?_:s.heap.objs.size<=(s.heap.push _).objs.size);rw[Heap.size_push];exact Lq _
  exact hk b ob nL nI (tF b ob nL (iE b ob (mc b ob e)))
 have' this:_:=h order dN d cx old (K5 (La KH));exact wpAny_pure this
end
end
section
set_option genSizeOf false
set_option genInjectivity false
open PySem PySem.W PySem.Calls PyProof.Rows
noncomputable def zO{α:Type}(n:Nat)(P:α->Prop):KasT α->Prop
 | .ret a=>P a
 | .ask i j k=>i<n/\j<n/\∀b,zO n P (k b)
theorem zO.bind:∀{t:KasT α},zO n P t->(∀a,P a->zO n P' (f a))->zO n P' (t.bind f)
 | .ret a,h,hf=>hf a h
 | .ask i j k,⟨h1,h2,h3⟩,hf=>⟨h1,h2,λb=>(h3 b).bind hf⟩
theorem zO.mono{α:Type}{n:Nat}{P P':α->Prop}(hp:∀a,P a->P' a):∀{t:KasT α},zO n P t->zO n P' t
 | .ret a,h=>hp a h
 | .ask i j k,⟨h1,h2,h3⟩=>⟨h1,h2,λb=>(h3 b).mono hp⟩
theorem zO.ite[Decidable c](h1:zO n P t)(h2:zO n P t'):zO n P (if c then t else t'):=by
 split <;> assumption
noncomputable def yd(n:Nat)(p:Array Nat):Prop:=p.toList.Perm (List.range n)
theorem yd.get(h:yd n p)(h0:0<n)(k:Nat):p.getD k 0<n:=by
 refine ae Ma ?_;cases e:p[k]? with
 | none=>exact h0
 | some x =>
  have' this:x∈p.toList:=by
   have' this:_:=Array.mem_of_getElem? e;simpa using this
  exact K8.mp (h.mem_iff.mp this)
theorem yd.rev(h:yd n p)(i j:Nat):yd n (kas_rev p i j):=(Array.perm_iff_toList_perm.mp (mirror_perm p i j _)).trans h
theorem yd.bub(h:yd n p)(i j:Nat):yd n (bubble p i j):=(Array.perm_iff_toList_perm.mp (bubble_perm p i j)).trans h
theorem XU{n:Nat}(h0:0<n){p:Array Nat}(hp:yd n p):∀(f k:Nat),zO n (λZZ=>True) (kas_asc p f k)
 | 0,k=>trivial
 | f+1,k=>⟨hp.get h0 _,hp.get h0 _,λb=>zO.ite trivial (XU h0 hp f (k+1))⟩
theorem wG(h0:0<n):∀(f:Nat) (p:Array Nat) (k q:Nat),yd n p->zO n (λr:Array Nat × Nat × Nat=>yd n r.1) (kas_desc f p k q)
 | 0,p,k,q,hp=>hp
 | f+1,p,k,q,hp=>⟨hp.get h0 _,hp.get h0 _,λb=>zO.ite (zO.ite (wG h0 f _ _ _ (hp.rev _ _)) (wG h0 f _ _ _ hp))
   ⟨hp.get h0 _,hp.get h0 _,λd=>zO.ite hp (wG h0 f _ _ _ hp)⟩⟩
theorem Xi{n:Nat}(h0:0<n){p:Array Nat}(hp:yd n p)(a b:Nat):zO n (λr:Nat × Array Nat=>yd n r.2) (kas_tail3 a b p) :=
 (XU h0 (hp.rev _ _) _ _).bind λZZ ZZ=>hp.rev _ _
theorem wH{n:Nat}(h0:0<n){p:Array Nat}(hp:yd n p)(a b:Nat):zO n (λr:Nat × Array Nat=>yd n r.2) (kas_descPart a b p) :=
 (wG h0 _ _ _ _ hp).bind λr hr=>zO.ite (Xi h0 (hr.rev _ _) _ _) (Xi h0 hr _ _)
theorem zcy{n:Nat}(h0:0<n){p:Array Nat}(hp:yd n p)(b:Nat):zO n (λr:Nat × Array Nat=>yd n r.2) (kas_count b p) :=
 (XU h0 hp _ _).bind λm ZZ=>zO.ite hp (zO.ite ⟨hp.get h0 _,hp.get h0 _,λc=>zO.ite hp (wH h0 (hp.rev _ _) _ _)⟩ (wH h0 hp _ _))
theorem ZC{n:Nat}(h0:0<n){p:Array Nat}(hp:yd n p)(k:Nat):∀(f l r:Nat),zO n (λZZ=>True) (kas_place p k f l r)
 | 0,l,r=>trivial
 | f+1,l,r=>by
  exact zO.ite trivial ⟨hp.get h0 _,hp.get h0 _,λc=>zO.ite (ZC h0 hp k f _ _) (ZC h0 hp k f _ _)⟩
theorem KJ(h0:0<n):∀(f:Nat) (p:Array Nat) (k:Nat),yd n p->zO n (yd n) (kas_bin f p k)
 | 0,p,k,hp=>hp
 | f+1,p,k,hp=>(ZC h0 hp k k 0 k).bind λl _=>KJ h0 f _ _ (hp.bub _ _)
theorem zdW(h0:0<n):zO n (yd n) (kas_sort n) :=
 (zcy h0 (p:=List.toArray (List.range n)) (List.Perm.refl _) n).bind λr hr=>zO.ite (KJ h0 _ _ _ hr) hr
theorem zO.run{α:Type}{n:Nat}{P:α->Prop}{cmp:Nat->Nat->(Bool->Shared->Prop)->Shared->Prop}{s:Shared}(hc:∀i j C,i<n->j<n->(∀b,C b s)->cmp i j C s){Q:α->Shared->Prop}(hq:∀a,P a->Q a s):
  ∀{t:KasT α},zO n P t->t.kasWp cmp Q s
 | .ret a,h=>hq a h
 | .ask i j k,⟨h1,h2,h3⟩=>hc i j _ h1 h2 λb=>zO.run hc hq (h3 b)
section
variable {prog:Program} {w:World} {A:Around} {E:Value->Shared->Prop} {s:Shared}
theorem GS(h:∀b,Q b s):wpAny (model prog w) A (compareOp .Lt (.int a t) (.int b u)) (W.BoolBack Q) E s:=PyProof.Rows.lt_int (h _)
theorem zkf(hx:qK prog w s.heap x a)(hy:qK prog w s.heap y b)(hax:∀z∈x.tail,∃n,z = .inr n)(hay:∀z∈y.tail,∃n,z = .inr n)(h:∀b,Q b s):wpAny (model prog w) A (keyLt' (tuples' true) (.ref a) (.ref b)) Q E s:=by
 obtain⟨⟨ox,xs,n,Br,_,hdx,Bt⟩,x0,xr,rfl⟩:=hx;obtain⟨⟨oy,ys,m,hoy,_,hdy,Bu⟩,y0,yr,rfl⟩:=hy;refine kat_lt Br hdx hoy hdy ?_;have' tail:∀(xr yr:List Pt) (us vs:List Value) (fin:Bool) (i:Nat),0<i->ItemsAre (zB prog w) xr us->ItemsAre (zB prog w) yr vs->(∀z∈xr,∃n,z = .inr n)->(∀z∈yr,∃n,z = .inr n)->KatLex prog w A true fin Q (us.zip vs) i s:=by
  intro xr;induction xr with
  | nil=>intro yr us vs fin i hi h1 _ _ _;cases h1;exact kat_nil (h _)
  | cons z xr ih =>
   intro yr us vs fin i hi h1 h2 a1 a2;cases h1 with
   | @cons _ u _ us q1 r1 =>
    cases h2 with
    | nil=>exact kat_nil (h _)
    | @cons z' v yr vs q2 r2 =>
     obtain⟨n1,rfl⟩:=a1 z (.head _);obtain⟨n2,rfl⟩:=a2 z' (.head _);refine kat_cons ((zB prog w).eqBool q1 q2 (kat_go (λZZ=>kat_yes (ih yr us vs fin (i+1) (Kv _) r1 r2 (λy hy=>a1 y (.tail _ hy)) λy hy=>a2 y (.tail _ hy))) λZZ=>kat_no ?_));obtain⟨t1,rfl⟩:=Value.isInt_shape (xe q1);obtain⟨t2,rfl⟩:=Value.isInt_shape (xe q2);have' hb:(true&&i == 0)=false:=by simp;exact PF hi
     refine ae hb ?_;exact kat_one _ _ (GS h)
 cases fR:xs.toList with
 | nil=>rw[fR]at Bt;cases Bt
 | cons u us =>
  rw[fR]at Bt;cases dc:ys.toList with
  | nil=>rw[dc]at Bu;cases Bu
  | cons v vs =>
   rw[dc]at Bu;cases Bt with
   | cons q1 r1 =>
    cases Bu with
    | cons q2 r2 =>
     refine ae List.zip_cons_cons ?_;refine kat_cons ((zB prog w).eqBool q1 q2 (kat_go (λZZ=>kat_yes (tail xr yr us vs _ 1 (Kv _) r1 r2 hax hay)) λZZ=>kat_no ?_));obtain⟨t1,rfl⟩:=Value.isStrOf_shape (y7 q1);obtain⟨t2,rfl⟩:=Value.isStrOf_shape (y7 q2);exact oneLt_str (h _)
end
end
section
set_option genSizeOf false
set_option genInjectivity false
open PySem PySem.W PySem.Calls PyProof.Rows
section
variable {prog:Program} {w:World} {A:Around} {E:Value->Shared->Prop} {s:Shared}
theorem yT(ho:h.get? a=some (ji vs n)):(∃n',(sortedHeap h a vs out).get? a=some (ji out.toList n'))/\∀b ob,b≠a->h.get? b=some ob->(sortedHeap h a vs out).get? b=some ob:=by
 have' ha:a<h.objs.size:=La ho;have' s1:_:=Heap.SameBut.update h a (Obj.mapSeq λZZ=>(#[]:Array Value));obtain⟨e1,da⟩:∃e1,(h.update a (Obj.mapSeq λZZ=>(#[]:Array Value))).get? a=some (seqObj "list" #[] e1):=⟨_,get?_update_seq ho λZZ => #[]⟩;have' fF:(((h.update a (Obj.mapSeq λZZ=>(#[]:Array Value))).push (seqObj "tuple" vs.toArray 0)).push (seqObj "list" #[] 0)).get? a=some (seqObj "list" #[] e1):=Ke _ (Ke _ da);refine⟨⟨_,get?_update_seq fF λZZ=>out⟩,λb ob nb e=>?_⟩;refine(Li _ _ (Ne.symm nb)).trans (Ke _ (Ke _ ?_));exact(Li _ _ (Ne.symm nb)).trans e
noncomputable abbrev Dh(prog:Program)(w:World)(h:Heap)(v:Value):Prop:=∃ks b,v = .ref b/\qK prog w h ks b/\∀z∈ks.tail,∃n,z = .inr n
theorem qK.grow(x:qK prog w h ks b)(hs:∀ob,h.get? b=some ob->h'.get? b=some ob):qK prog w h' ks b:=by
 obtain⟨⟨o',items,m,rm,r⟩,y⟩:=x;exact⟨⟨o',items,m,hs _ rm,r⟩,y⟩
theorem qK.notList(x:qK prog w h ks b):∀ob,h.get? b=some ob->∀xs n,ob≠ji xs n:=by
 obtain⟨⟨o',items,m,rm,hc,_⟩,y⟩:=x;intro ob e;rw[rm]at e;obtain rfl:=Option.some.inj e;exact yJ (T:="tuple") hc rfl
theorem Jh(ho:s.heap.get? a=some (ji vs n))(hN:∀v∈vs,Dh prog w s.heap v)(nH:vs.length<64)(h:∀out h' n',out.Perm vs->h'.get? a=some (ji out n')->(∀b ob,b≠a->s.heap.get? b=some ob->h'.get? b=some ob)->P (.done (.ret .none)) { s with heap:=h' }):
  wpAny (model prog w) A (Builtin.«list.sort» ⟨[.ref a],[]⟩) P E s:=by
 have' facts:_:=λout=>yT (out:=out) ho;rw[list_sort_plain];have' ha:a<s.heap.objs.size:=La ho;refine wpAny_bind (listItems_at ho rfl ?_);refine wpAny_bind (listUpdate_at ho rfl ?_ (ae Kd (ae sizeLine_eq (Xy nH rfl))) (Kt _));obtain⟨e1,da⟩:∃e1,(s.heap.update a (Obj.mapSeq λZZ => #[])).get? a=some (seqObj "list" #[] e1):=⟨_,get?_update_seq ho (λZZ => #[])⟩;refine wpAny_bind (seqEpoch_at da rfl ?_);refine wpAny_bind (wpAny_newTuple ?_ (by refine(?_:vs.length<=_);refine ae sizeLine_eq ?_;exact Xy nH rfl));refine wpAny_bind (wpAny_newList ?_ (Kt _));refine wpAny_holding ?_;have tG:(((s.heap.update a (Obj.mapSeq λZZ => #[])).push (seqObj "tuple" vs.toArray 0)).push (seqObj "list" #[] 0)).get? a=some (seqObj "list" #[] e1):=Ke _ (Ke _ da);have tH:∀v∈vs,Dh prog w (((s.heap.update a (Obj.mapSeq λZZ => #[])).push (seqObj "tuple" vs.toArray 0)).push (seqObj "list" #[] 0)) v:=λv hv=>by
  refine jg (hN v hv) λks b e nd t=>?_;refine⟨ks,b,e,nd.grow λob eb=>?_,t⟩;have' nb:b≠a:=λq=>by rw[q,ho]at eb;obtain rfl:=Option.some.inj eb;exact nd.notList _ (ae q ho) _ _ rfl
  exact Ke _ (Ke _ ((Li _ _ (Ne.symm nb)).trans eb))
 refine(?_:wpAny (model prog w) A _ P E { s with heap:=((s.heap.update a (Obj.mapSeq λZZ => #[])).push (seqObj "tuple" vs.toArray 0)).push (seqObj "list" #[] 0) });dsimp only;have bT:vs.toArray.size=vs.length:=Kd;have fin:∀out:Array Value,out.toList.Perm vs->P (.done (.ret .none)) { s with heap:=sortedHeap s.heap a vs out }:=λout hp=>by
  obtain⟨⟨n',f1⟩,f2⟩:=facts out;exact h _ _ _ hp f1 f2
 by_cases h2:vs.toArray.size<2
 ·refine ae (if_pos h2) ?_;refine ae (if_pos h2) ?_;refine wpAny_bind (wpAny_pure ?_);rw[StateT.run_pure];refine wpAny_bind (wpAny_pure ?_);dsimp only;refine wpAny_bind (seqEpoch_at tG rfl ?_);refine wpAny_bind (listUpdate_at tG rfl ?_ (Kt _) (by refine ae Vv ?_;refine(?_:(pairsOf vs).size<=_);rewrite [pairsOf_size];refine ae sizeLine_eq ?_;exact PG h2 bT rfl));refine ae (if_neg Bh) ?_;refine wpAny_pure (fin ((arrOf (SortSt.mk' general' (vs.toArray.zip vs.toArray) #[] 7 none)).map fun(x:Keyed)=>x.2) ?_);refine(?_:((vs.toArray.zip vs.toArray).map (·.2)).toList.Perm vs);have' e:((vs.toArray.zip vs.toArray).map (·.2)).toList=vs:=by
   refine ae Array.toList_map ?_;refine ae Array.toList_zip ?_;refine(?_:List.map (λx:Value × Value=>x.2) (vs.zip vs)=vs);clear hN tH fin facts h tG da ho bT h2 nH;induction vs with
   | nil=>rfl
   | cons v r ih=>refine ae List.zip_cons_cons ?_;refine ae M7 ?_;refine ae ih ?_;rfl
  refine ae e ?_;rfl
 ·refine ae (if_neg h2) ?_;refine ae (if_neg h2) ?_;have' eA:2<=vs.length:=by rw[bT]at h2;exact gZ h2
  obtain⟨fs,hfs,hK⟩:∃fs:List Value,fs.length=vs.length/\KatTups (((s.heap.update a (Obj.mapSeq λZZ => #[])).push (seqObj "tuple" vs.toArray 0)).push (seqObj "list" #[] 0)) vs fs/\∀f∈fs,∃x t,f = .str x t:=by
   clear fin facts h tG da bT h2 nH eA hN ho;generalize ((s.heap.update a (Obj.mapSeq λZZ => #[])).push (seqObj "tuple" vs.toArray 0)).push (seqObj "list" #[] 0)=H at tH |-;induction vs with
   | nil=>exact⟨[],rfl,trivial,λf hf=>by cases hf⟩
   | cons v r ih =>
    refine qY (ih λy hy=>tH y (.tail _ hy)) λfs e1 e2 e3=>?_;refine g8 (tH v (.head _)) λks b bR iu ZZ=>?_;obtain rfl:=bR;obtain⟨⟨o,items,n,hb,hc,hd,hi⟩,x,rr,rfl⟩:=iu;obtain⟨l⟩:=items;cases hi with
    | @cons _ u _ us q1 _ =>
     obtain⟨t,rfl⟩:=Value.isStrOf_shape (y7 q1);refine⟨.str x t::fs,ae Lj (ae Lj (ae e1 rfl)),KatTups.cons hb hc hd rfl e2,λf hf=>?_⟩;rcases Kw.mp hf with rfl | hf
     ·exact⟨x,t,rfl⟩
     ·exact e3 f hf
  refine wpAny_bind (kat_kind (T:=.type "str") hK.1 (PH hfs bT h2) (λv hv=>?_) rfl ?_)
  ·refine Jb (hK.2 v hv) λx t bG=>?_;obtain rfl:=bG;exact fun {_ _ _ _ _} hq=>wpAny_pure hq
  ·have' Di:(kas_sort vs.length).kasWp (kas_ask prog w A (tuples' (Value.type "str" != Value.type "tuple")) vs) (λp s'=>s'=({ s with heap:=((s.heap.update a (Obj.mapSeq λZZ => #[])).push (seqObj "tuple" vs.toArray 0)).push (seqObj "list" #[] 0) }:Shared)/\yd vs.length p)
     { s with heap:=((s.heap.update a (Obj.mapSeq λZZ => #[])).push (seqObj "tuple" vs.toArray 0)).push (seqObj "list" #[] 0) }:=by
    refine zO.run (λi j C hi hj hC=>?_) (λp hp=>⟨rfl,hp⟩) (zdW (n:=vs.length) (PI bT h2));unfold kas_ask;have' gi:vs.getD i Value.none∈vs:=by refine ae Kh ?_;refine ae (Ka hi) ?_;exact Ky hi
    have' gj:vs.getD j Value.none∈vs:=by refine ae Kh ?_;refine ae (Ka hj) ?_;exact Ky hj
    refine jg (tH _ gi) λks1 b1 e1 n1 t1=>?_;refine jg (tH _ gj) λks2 b2 e2 n2 t2=>?_;refine ae e1 ?_;refine ae e2 ?_;exact zkf n1 n2 t1 t2 hC
   refine wpAny_bind (wpAny_mono (kat_run (Q:=λo5 s'=>∃p:Array Nat,p.size=vs.length/\arrOf o5=p.map (kas_item (vs.toArray.zip vs.toArray))/\failedOf o5=none/\s'=({ s with heap:=((s.heap.update a (Obj.mapSeq λZZ => #[])).push (seqObj "tuple" vs.toArray 0)).push (seqObj "list" #[] 0) }:Shared)/\yd vs.length p)
    rfl eA nH (λp' o5 s' a1 a2 a3 a4=>⟨p',a1,a2,a3,a4⟩) Di) ?_ λZZ ZZ e=>e)
   rintro⟨⟨⟩,o5⟩ s' ⟨p,hp,har,hf,rfl,uG⟩;dsimp only;have' Dj:_:=kat_snds (ks:=vs) (vs:=vs) rfl har;have' hz:(List.toArray (p.toList.map λi=>vs.getD i Value.none)).size=vs.length:=by refine ae Kd ?_;rewrite [List.length_map];refine ae K7 ?_;refine ae hp ?_;rfl
   refine ae Dj ?_;refine wpAny_bind (seqEpoch_at tG rfl ?_);refine wpAny_bind (listUpdate_at tG rfl ?_ (Kt _) (Ks (Kc hz) (ae sizeLine_eq (PJ nH rfl))));refine ae hf ?_;refine ae (if_neg Bh) ?_;refine wpAny_pure (fin _ ?_);refine(?_:(p.toList.map λi=>vs.getD i Value.none).Perm vs);refine(uG.map _).trans (List.Perm.of_eq ?_)
   apply M2
   ·simp
   ·intro k h1 h3;simp at h1;simp[List.getD_eq_getElem?_getD,h1]
end
end
section
set_option genSizeOf false
set_option genInjectivity false
open PySem PySem.W PySem.Calls PyProof.Rows
noncomputable def KO(prog:Program)(w:World)(a:Addr)(es:List (Int × Value))(ep:Nat)(t:SetTable)(T:zT t es.length (!zW w))(hz:es.length<=1000):Bq prog w a where
 T:="set"
 base:=λh=>h.get? a=some (jz es ep t)
 ok:=λorder=>order.Perm (es.map (·.2))
 It:=λorder I i h=>xT w h I a es ep t order i/\a≠I
 type:=λhb=>⟨_,hb,rfl⟩
 notList:=by decide
 notTuple:=by decide
 always:=by decide
 grows:=λhb hk=>hk _ _ hb
 hint:=fun {A E s Q} hb h=>zdV ⟨_,hb,rfl⟩ h
 iter:=fun {A E s Q} hb h=>ZB hb T hz λorder I h' d hp st hI hk=>h order I h' d hp ⟨st,K6 (Lh (La hb) hI)⟩ hI hk
 frame:=λzp hL hk=>by refine bE zp λst ne=>?_;exact⟨st.frame hL hk,ne⟩
 there:=fun {order I i h} zk8=>by
  obtain⟨st,ne⟩:=zk8;obtain⟨ha,⟨b,slot,hI,ho⟩ | ⟨b,c,slot,hI,ho,hb⟩ | ⟨p,ps,m,hI,hp,tC,hl,dQ,hk⟩⟩:=st
  ·exact⟨_,hI,yJ (T:="set_iterator") rfl rfl⟩
  ·exact⟨_,hI,yJ (T:="set_iterator") rfl rfl⟩
  ·exact⟨_,hI,yJ (T:="set_iterator") rfl rfl⟩
 item:=fun {A E s order I i v Q} _ zp hx h=>zp.1.item T zp.2 hx λh' hs o5=>h h' hs ⟨o5,zp.2⟩
 stop:=fun {A E s order I Q} hh _ zp h=>zp.1.stop hh T h
section
variable {prog:Program} {w:World} {A:Around} {E:Value->Shared->Prop} {s:Shared}
theorem Z4{x:Addr}(P:Bq prog w x)(Good:List Value->List Value->Prop){Q:Value->Shared->Prop}(hh:A.handled=none)(hb:P.base s.heap)(hz:∀order,P.ok order->order.length<=60)(srt:∀(order:List Value) (s₁:Shared) (a n:Nat) (A':Around) (Pq:Fin->Shared->Prop) (E':Value->Shared->Prop),P.ok order->(∀b ob,s.heap.get? b=some ob->s₁.heap.get? b=some ob)->s₁.heap.get? a=some (ji order n)->
   (∀out h' n',Good order out->h'.get? a=some (ji out n')->(∀b ob,b≠a->s₁.heap.get? b=some ob->h'.get? b=some ob)->Pq (.done (.ret .none)) { s₁ with heap:=h' })->wpAny (model prog w) A' (Builtin.«list.sort» ⟨[.ref a],[]⟩) Pq E' s₁)(h:∀order out D h' d n',P.ok order->Good order out->s.heap.objs.size<=D->h'.get? D=some (ji out n')->(∀b ob,s.heap.get? b=some ob->h'.get? b=some ob)->Q (.ref D) { s with heap:=h',drawn:=d }):
  wpAny (model prog w) A (call (.builtin "sorted") [.ref x]) Q E s:=by
 refine Calls.call_function_entry kind_sorted plain_sorted entry_sorted (args_sorted1 _) ?_;refine wpAny_bind (m:=checkCount "sorted" 1 1 _) (wpAny_pure ?_);refine wpAny_bind (XT P (by simp[hh]) hb (λorder ho=>Ks (hz order ho) (by decide)) λorder h1 d cx kI bT=>?_);have' hlen:_:=hz order cx;refine wpAny_bind (wpAny_newList ?_ (ae sizeLine_eq (zS hlen rfl)));have rp:(h1.push (ji order 0)).get? h1.objs.size=some (ji order 0):=Kl _ rfl;have' lt:∀b ob,s.heap.get? b=some ob->b<h1.objs.size:=λb ob e=>La (kI b ob e);refine wpAny_bind (wpAny_holding (wpAny_call_entry slot_list_sort ⟨_,rp,rfl⟩ entry_list_sort (srt order _ h1.objs.size 0 _ _ _ cx (λb ob e=>Ke _ (kI b ob e)) rp λout h' n' hg ha hk=>⟨_,rfl,?_⟩) (args_list_sort _)));refine wpAny_pure ⟨_,rfl,h order out h1.objs.size h' d n' cx hg bT ha λb ob e=>hk b ob (K6 (lt b ob e)) (Ke _ (kI b ob e))⟩
theorem Xj(ho:s.heap.get? a=some (ji vs n))(hI:IntsAre vs ns)(nH:vs.length<64)(h:∀out h' n' bJ,IntsAre out bJ->bJ.Perm ns->bJ.Pairwise (·<=·)->h'.get? a=some (ji out n')->(∀b ob,b≠a->s.heap.get? b=some ob->h'.get? b=some ob)->P (.done (.ret .none)) { s with heap:=h' }):
  wpAny (model prog w) A (Builtin.«list.sort» ⟨[.ref a],[]⟩) P E s :=
 list_sort_tree ho hI nH λout bJ a1 a2 a3=>by
  obtain⟨⟨n',f1⟩,f2⟩:=yT (out:=out) ho;exact h out.toList _ n' bJ a1 a2 a3 f1 f2
theorem zlc{es:List (Int × Value)}(I:yI es){order:List Value}(p:order.Perm (es.map (·.2))):IntsAre order (order.map rh)/\(order.map rh).Perm (zn es):=by
 have' all:∀v∈order,∃n t,v=Value.int n t:=λv hv=>by
  refine zV (Kr.mp (p.mem_iff.mp hv)) λe he bR=>?_;obtain rfl:=bR;refine Jb (I e he) λn t bo=>?_;obtain rfl:=bo;exact⟨n,t,rfl⟩
 refine⟨?_,?_⟩
 ·clear p;induction order with
  | nil=>exact .nil
  | cons v r ih =>
   refine Jb (all v (.head _)) λn t bG=>?_;obtain rfl:=bG;exact .cons n t (ih λy hy=>all y (.tail _ hy))
 ·have' this:_:=p.map rh;rw[List.map_map]at this;exact this
end
section
variable {B:Bs} {A:Around} {own:Bool} {env:Env} {vs:Vs} {S:St}
theorem Ok.set(o:Ok B S X s)(h:S.has a (.set es t)):∃n,s.heap.get? a=some (jz es n t) :=
 by refine JX (o.3 _ _ h) λZZ e n q=>?_;exact⟨n,by rw[q]at e;exact e⟩
theorem Ok.drawn(o:Ok B S X s)(s':Shared)(h1:s'.heap=s.heap)(h2:s'.os=s.os)(h3:s'.gens=s.gens):Ok B S X s' :=
 ⟨o.1,λa ob q=>ae h1 (o.2 a ob q),λa c q=>ae h1 (o.3 a c q),o.4,o.5,o.6,h2.trans o.7,h3.trans o.8⟩
theorem Ok.newList(o:Ok B S X s)(hD:s.heap.objs.size<=D)(ha:h'.get? D=some (ji out n'))(hk:∀b ob,s.heap.get? b=some ob->h'.get? b=some ob)(s':Shared)(h1:s'.heap=h')(h2:s'.os=s.os)(h3:s'.gens=s.gens):
  Ok B (S.put r D (.list out)) X s':=by
 have big:=o.above hD;exact o.new (c':=.list out) big.1 ⟨big.2,qO o hD⟩ (λb ob q ZZ=>hk b ob q) ⟨_,ha,n',rfl⟩ s' h1 h2 h3
noncomputable abbrev TB(B:Bs)(es:List (Int × Value))(t:SetTable):Prop:=zT t es.length (!zW B.w)
theorem gT(ha:S.has a (.list xs))(hI:IntsAre xs ns)(nH:xs.length<64)(h:∀c out bJ,S.no c->IntsAre out bJ->bJ.Perm ns->bJ.Pairwise (·<=·)->Q (.ref c) (S.put r c (.list out))):V B A S (call (.builtin "sorted") ([]++[.ref a])) Q:=λX s o=>by
 refine sorted_ints (o.list ha) hI nH λout bJ a1 a2 a3=>?_;have' bT:((s.heap.push (seqObj "list" #[] 0)).update s.heap.objs.size (Obj.mapSeq (· ++ xs.toArray))).objs.size=s.heap.objs.size+1:=by
  rw[Heap.size_update,size_push']
 have' rp:(((s.heap.push (seqObj "list" #[] 0)).update s.heap.objs.size (Obj.mapSeq (· ++ xs.toArray))).push (seqObj "list" xs.toArray 0)).get? (s.heap.objs.size+1)=some (ji xs 0):=by
  exact aR bT (Kl _ rfl)
 obtain⟨⟨n',f1⟩,f2⟩:=yT (out:=out) rp;have big:s.heap.objs.size<=s.heap.objs.size+1:=Lq _;refine⟨_,o.newList (r:=r) big f1 (λb ob q=>?_) _ rfl rfl rfl,h _ out.toList bJ (o.above big).1 a1 a2 a3⟩;have lt:=La q;refine f2 b ob (K6 (Lz lt)) (Ke _ ((Li _ _ (Ly lt)).trans (Ke _ q)))
theorem yj(hh:A.handled=none)(ha:S.has a (.set es t))(T:TB B es t)(I:yI es)(hz:es.length<=60)(h:∀c out bJ,S.no c->IntsAre out bJ->bJ.Perm (zn es)->bJ.Pairwise (·<=·)->Q (.ref c) (S.put r c (.list out))):V B A S (call (.builtin "sorted") ([]++[.ref a])) Q:=λX s o=>by
 refine aB (o.set ha) λep e=>?_;refine Z4 (KO B.prog B.w a es ep t T (Ks hz (by decide))) (λorder out=>∃bJ,IntsAre out bJ/\bJ.Perm (zn es)/\bJ.Pairwise (·<=·)) hh e (λorder hp=>by refine ae hp.length_eq ?_;rw[List.length_map];exact hz)
  (λorder s₁ b n A' Pq E' hp hk hb fin=>?_) (λorder out D h' d n' hp hg hD ho hk=>?_)
 ·refine bE (zlc I hp) λi1 i2=>?_;refine Xj hb i1 (by refine ae hp.length_eq ?_;rw[List.length_map];exact CJ hz rfl) λout h' n' bJ a1 a2 a3 a4 a5=>fin out h' n' ⟨bJ,a1,a2.trans i2,a3⟩ a4 a5
 ·refine qY hg λbJ a1 a2 a3=>?_;exact⟨_,o.newList (r:=r) hD ho hk _ rfl rfl rfl,h _ out bJ (o.above hD).1 a1 a2 a3⟩
theorem wc(hh:A.handled=none)(ha:S.has a (.set es t))(T:TB B es t)(N:∀X s,Ok B S X s->∀v∈es.map (·.2),Dh B.prog B.w s.heap v)(hz:es.length<=60)(h:∀c out,S.no c->out.Perm (es.map (·.2))->Q (.ref c) (S.put r c (.list out))):V B A S (call (.builtin "sorted") ([]++[.ref a])) Q:=λX s o=>by
 refine aB (o.set ha) λep e=>?_;refine Z4 (KO B.prog B.w a es ep t T (Ks hz (by decide))) (λorder out=>out.Perm (es.map (·.2))) hh e (λorder hp=>by refine ae hp.length_eq ?_;rw[List.length_map];exact hz)
  (λorder s₁ b n A' Pq E' hp hk hb fin=>?_) (λorder out D h' d n' hp hg hD ho hk=>?_)
 ·refine Jh hb (λv hv=>?_) (by refine ae hp.length_eq ?_;rw[List.length_map];exact CJ hz rfl) λout h' n' a1 a2 a3=>fin out h' n' (a1.trans hp) a2 a3;refine jg (N X s o v (hp.mem_iff.mp hv)) λks b' e1 e2 e3=>?_;exact⟨ks,b',e1,e2.grow λob q=>hk _ _ q,e3⟩
 ·exact⟨_,o.newList (r:=r) hD ho hk _ rfl rfl rfl,h _ out (o.above hD).1 hg⟩
end
end
section
set_option genSizeOf false
set_option genInjectivity false
open PySem PySem.W PySem.Calls PyProof.Rows
section
variable {prog:Program} {w:World} {A:Around} {E:Value->Shared->Prop} {s:Shared}
theorem XV(hh:A.handled=none)(hm:(x == sysModules)=false)(hb:s.heap.DictAt (intKind prog w) x kvs ep)(hz:kvs.length<=1000)(h:∀order h' tk,IntsAre order (kvs.map (·.1))->(∀b ob,s.heap.get? b=some ob->h'.get? b=some ob)->s.heap.objs.size<=h'.objs.size->Q order { s with heap:=h',toks:=tk }):wpAny (model prog w) A (collect (.ref x)) Q E s:=by
 have' hT:_:=hb.dictOf.typeIs;refine wpAny_bind (wpAny_runValue (codeAny_builtin F.entry_proto_collect ?_));refine ae (Around.under_plainId F.plain_proto_collect _) ?_;refine(?_:wpAny _ A.in1 (newList [] >>= λl=>again (.builtin "list.__iadd__" ⟨[l,.ref x],[]⟩)) _ _ s);refine wpAny_bind (wpAny_newObj_type ?_);refine wpAny_pure ⟨plainId_quiet F.plain_list_iadd _,codeAny_builtin F.entry_list_iadd ?_⟩;refine ae (Around.under_plainId F.plain_list_iadd _) ?_;have mc:∀b ob,s.heap.get? b=some ob->(s.heap.push { cls:=.type "list",data:=.seq ([]:List Value).toArray }).get? b=some ob:=λb ob e=>Ke _ e;have fQ:(s.heap.push { cls:=.type "list",data:=.seq ([]:List Value).toArray }).DictAt (intKind prog w) x kvs ep:=hb.at' λo e=>mc _ _ e;have' De:(s.heap.push { cls:=.type "list",data:=.seq ([]:List Value).toArray }).get? s.heap.objs.size=some (ji [] 0):=Kl _ rfl;have uH:x<s.heap.objs.size:=by refine zV hT λob e ZZ=>?_;exact La e
 have uE:s.heap.objs.size≠x:=Ly uH;have uI:(s.heap.push { cls:=.type "list",data:=.seq ([]:List Value).toArray }).objs.size=s.heap.objs.size+1:=Vu ..;refine(?_:wpAny _ A.in1 (Builtin.List.listExtendWith (.ref s.heap.objs.size) (.ref x) (.ref s.heap.objs.size)) _ _ _);refine wpAny_bind (wpAny_typeOf (T:="dict") (fQ.dictOf.typeIs (s:={ s with heap:=s.heap.push { cls:=.type "list",data:=.seq ([]:List Value).toArray } })) ?_);have' h1:Builtin.List.listSameRef (.ref s.heap.objs.size) (.ref x)=false:=by simp[Builtin.List.listSameRef,uE]
 have' h2:(Value.type "dict" == Value.type "list")=false:=by decide
 have' h3:(Value.type "dict" == Value.type "tuple")=false:=by decide
 rw[h1,h2,h3,Bool.or_false];refine ae (if_neg Kn) ?_;dsimp only;refine wpAny_bind (wpAny_pyIter_dict (knd:=intKind prog w) hm fQ ?_);refine wpAny_bind (wpAny_holding ?_);refine kdl_hint_dict (s:={ s with heap:=(s.heap.push { cls:=.type "list",data:=.seq ([]:List Value).toArray }).push _ }) ⟨_,Ke _ (fQ.dictOf.typeIs (s:={ s with heap:=s.heap.push { cls:=.type "list",data:=.seq ([]:List Value).toArray } })).choose_spec.1,(fQ.dictOf.typeIs (s:={ s with heap:=s.heap.push { cls:=.type "list",data:=.seq ([]:List Value).toArray } })).choose_spec.2⟩ ?_;have' al:(false||["set","frozenset","dict","dict_keys","dict_values","dict_items"].any (Value.type "dict" == .type ·))=true:=by decide
 refine(?_:wpAny _ A.in1 (if (false||["set","frozenset","dict","dict_keys","dict_values","dict_items"].any (Value.type "dict" == .type ·))=true then(rule "list.extend.makes-room" >>= λZZ=>Builtin.List.listTouch (.ref s.heap.objs.size) >>= λZZ=>_) else _) _ _ _);refine ae (if_pos al) ?_;refine wpAny_bind (wpAny_rule ?_);generalize hH:(s.heap.push { cls:=.type "list",data:=.seq ([]:List Value).toArray }).push { cls:=.type "dict_keyiterator",data:=.fields #[.ref x,.int 0 0,.int kvs.length 0,.int ep 0] }=H;have iE:∀b ob,(s.heap.push { cls:=.type "list",data:=.seq ([]:List Value).toArray }).get? b=some ob->H.get? b=some ob:=λb ob e=>aR hH (Ke _ e);have' Dk:H.IsKeyIter (s.heap.objs.size+1) x 0 kvs.length ep:=by
  exact aR hH (aR uI ⟨_,Kl _ rfl,rfl,rfl⟩)
 have' rq:H.DictAt (intKind prog w) x kvs ep:=fQ.at' λo e=>iE _ _ e;have tE:H.get? s.heap.objs.size=some (ji [] 0):=iE _ _ De;refine wpAny_bind ?_;refine(?_:wpAny _ A.in1 (updateSeq s.heap.objs.size (·.push .none) >>= λZZ=>updateSeq s.heap.objs.size (·.pop)) _ _ _);refine wpAny_bind (wpAny_updateSeq tE rfl ?_);have uF:=Le (Obj.mapSeq (·.push Value.none)) tE rfl;refine wpAny_updateSeq uF rfl ?_;have' Df:_:=Le (Obj.mapSeq (·.pop)) uF rfl;have tF:∀b ob,b≠s.heap.objs.size->H.get? b=some ob->((H.update s.heap.objs.size (Obj.mapSeq (·.push Value.none))).update s.heap.objs.size (Obj.mapSeq (·.pop))).get? b=some ob :=
  λb o hb e=>(Li _ _ (Ne.symm hb)).trans ((Li _ _ (Ne.symm hb)).trans e)
 have tD:s.heap.objs.size+1≠s.heap.objs.size:=Mn _;have' W:_:=Walks.dictKeys (prog:=prog) (w:=w) (knd:=intKind prog w) (A:=A.in1) (by simp[hh]) (s.heap.objs.size+1) x (K6 (Lz uH)) kvs ep;have' hSf:s.heap.objs.size∉[s.heap.objs.size+1,x]:=by
  simp only[List.mem_cons,List.not_mem_nil,or_false,not_or];exact⟨Ne.symm tD,uE⟩
 refine ae uI ?_;refine wpAny_pure ⟨plainId_quiet F.plain_extend_loop _,codeAny_extend_loopS W.toS (ae sizeLine_eq (zS hz rfl)) _ hSf _ kvs.length 0 _ _ _ rfl (Kt _) ⟨Dk.at λo e=>tF _ _ tD e,rq.at' λo e=>tF _ _ (Ne.symm uE) e⟩ Df (ItemsOf.nil _) λs' pY c' dx tI Dl=>?_⟩;refine(?_:wpAny _ A (load s.heap.objs.size >>= _) _ _ s');refine wpAny_bind (wpAny_load tI ?_);have' allI:IntsAre pY.toList (kvs.map (·.1)):=by
  refine bE Dl λe1 e2=>?_;have' key:∀(l:List Value) (ks:List (Int × Value)),l.length=ks.length->(∀(j:Nat) v,l[j]? = some v->∃k x,ks[j]? = some (k,x)/\(intKind prog w).is k v=true)->IntsAre l (ks.map (·.1)):=by
   intro l;induction l with
   | nil=>intro ks hl _;refine ae (Lk.mp hl.symm) ?_;exact .nil
   | cons v r ih =>
    intro ks hl hP;cases ks with
    | nil=>injection hl
    | cons p ks =>
     refine Bg (hP 0 v rfl) λk x e hk=>?_;obtain rfl:=Option.some.inj e;obtain⟨t,rfl⟩:=Value.isInt_shape hk;exact .cons _ t (ih ks (by simpa using hl) λj u hj=>hP (j+1) u hj)
  exact key _ _ (ae K7 e1) λj v hj=>e2 j v (by simpa using hj)
 have' es:s'={ s with heap:=s'.heap,toks:=s'.toks }:=by
  have' this:_:=Moved.eq_with dx;simpa using this
 refine ae es ?_;refine wpAny_pure (h _ _ _ allI (λb ob e=>?_) (K5 (La tI)));have lt:=La e;refine dx.heap b ob (λck=>?_) (tF b ob (K6 lt) (iE b ob (mc b ob e)));rcases Kw.mp ck with e' | ck
 ·exact K6 lt e'
 ·rw[List.mem_singleton.mp ck]at lt;exact absurd lt (K3.mpr (Lq _))
theorem GT(hh:A.handled=none)(hm:(x == sysModules)=false)(hb:s.heap.DictAt (intKind prog w) x kvs ep)(hz:kvs.length<=60)(h:∀out bJ D h' tk n',IntsAre out bJ->bJ.Perm (kvs.map (·.1))->bJ.Pairwise (·<=·)->s.heap.objs.size<=D->h'.get? D=some (ji out n')->(∀b ob,s.heap.get? b=some ob->h'.get? b=some ob)->Q (.ref D) { s with heap:=h',toks:=tk }):
  wpAny (model prog w) A (call (.builtin "sorted") [.ref x]) Q E s:=by
 refine Calls.call_function_entry kind_sorted plain_sorted entry_sorted (args_sorted1 _) ?_;refine wpAny_bind (m:=checkCount "sorted" 1 1 _) (wpAny_pure ?_);refine wpAny_bind (XV (by simp[hh]) hm hb (Ks hz (by decide)) λorder h1 tk hI kI bT=>?_);have hlen:order.length<=60:=by refine ae hI.length ?_;rw[List.length_map];exact hz
 refine wpAny_bind (wpAny_newList ?_ (ae sizeLine_eq (zS hlen rfl)));have rp:(h1.push (ji order 0)).get? h1.objs.size=some (ji order 0):=Kl _ rfl;have' lt:∀b ob,s.heap.get? b=some ob->b<h1.objs.size:=λb ob e=>La (kI b ob e);refine wpAny_bind (wpAny_holding (wpAny_call_entry slot_list_sort ⟨_,rp,rfl⟩ entry_list_sort (Xj (s:={ s with heap:=h1.push (ji order 0),toks:=tk }) rp hI (CJ hlen rfl) λout h' n' bJ a1 a2 a3 a4 a5=>⟨_,rfl,?_⟩) (args_list_sort _)));refine wpAny_pure ⟨_,rfl,h out bJ h1.objs.size h' tk n' a1 a2 a3 bT a4 λb ob e=>a5 b ob (K6 (lt b ob e)) (Ke _ (kI b ob e))⟩
end
section
variable {B:Bs} {A:Around} {own:Bool} {env:Env} {vs:Vs} {S:St}
theorem Qn(hh:A.handled=none)(ha:S.has a (.dict es))(D:DK (B:=B) (intKind B.prog B.w) es kvs)(hz:kvs.length<=60)(h:∀c out bJ,S.no c->IntsAre out bJ->bJ.Perm (kvs.map (·.1))->bJ.Pairwise (·<=·)->Q (.ref c) (S.put r c (.list out))):V B A S (call (.builtin "sorted") ([]++[.ref a])) Q:=λX s o=>by
 refine aB (o.dict ha) λn e=>?_;exact GT hh (o.cH ha) ⟨_,_,e,⟨rfl,rfl,rfl⟩,rfl,D.1,by simpa using D.2.1,D.2.2⟩ hz λout bJ d h' tk n' a1 a2 a3 hD ho hk =>
  ⟨_,o.newList (r:=r) hD ho hk _ rfl rfl rfl,h _ out bJ (o.above hD).1 a1 a2 a3⟩
end
end
section
set_option genSizeOf false
set_option genInjectivity false
open PySem PySem.W PySem.Calls PyProof.Rows
noncomputable def zX(w:World):SetTable:=.fresh 0 0 (!zW w)
theorem gz(w:World):zT (zX w) 0 (!zW w):=⟨rfl,rfl,(by decide:5*0<3*7),.inl rfl,rfl,List.Pairwise.nil⟩
section
variable {prog:Program} {w:World} {A:Around} {E:Value->Shared->Prop} {s:Shared}
theorem Qo(a:Value){Q₁:Value->Shared->Prop}(h:Q₁ (.ref s.heap.objs.size) { s with heap:=s.heap.push (jz [] 0 (zX w)) }):
  codeAny (model prog w) A (.call (.builtin "set.__new__") ⟨[.type "set",a],[]⟩) (wants Q₁ E) s:=by
 refine codeAny_of_tree ?_;refine(?_:wpAny _ A.in1 (do checkBuiltinCall "set.__new__" ⟨[.type "set",a],[]⟩;again (.builtin "set.__new__" ⟨[.type "set",a],[]⟩)) _ _ s);refine wpAny_bind (wpAny_of_eq (PySem.F.newCall_set_1 a) (wpAny_pure ⟨plainId_quiet PySem.F.plain_set_new _,codeAny_builtin PySem.F.entry_set_new ?_⟩));refine ae (Around.under_plainId PySem.F.plain_set_new _) ?_;unfold Builtin.«set.__new__» Builtin.Frozenset.newClass;have' bV:_:=sub_set_self;obtain⟨hp,g,d,tk,os⟩:=s;wp_walk;refine wpAny_askSetting (wpAny_pure ?_);refine wpAny_bind (wpAny_alloc (wpAny_pure ?_));exact wpAny_pure h
set_option maxHeartbeats 3200000 in
theorem XW(h:∀A':Around,A'.handled=A.handled->(A'.units<=A.units+20)->wpAny (model prog w) A' (Builtin.«set.__init__» ⟨[.ref s.heap.objs.size,x],[]⟩) (λfin s'=>fin = .done (.ret .none)/\Q (.ref s.heap.objs.size) s') (λZZ ZZ=>False) { s with heap:=s.heap.push (jz [] 0 (zX w)) })(uJ:∀s',Q (.ref s.heap.objs.size) s'->s'.TypeIs (.ref s.heap.objs.size) "set"):
  wpAny (model prog w) A (call (.type "set") [x]) Q E s:=by
 refine Ja PySem.F.called_set.mro λc tl Dm=>?_;have' uK:_:=PySem.F.called_set.made;have' bV:_:=PySem.F.called_set.sub;refine wpAny_call (codeAny_of_tree ?_);refine(?_:wpAny _ _ (callAny (.type "set") _) _ _ _);refine wpAny_pure ⟨Code.quiet_builtin _ (by decide +kernel),codeAny_builtin PySem.F.entry_type_call ?_⟩;refine ae (Around.under_plain (weight_type_call_type "set" [x] []) rfl) ?_;have' h1:_:=PySem.F.called_set.notType;have' h2:_:=PySem.F.called_set.canCreate;have' lu:_:=PySem.F.typeCall_set_1 x;repeat (any_goals (first | assumption | wp_step))
 refine codeAny_mono (Qo x (E:=E) (Q₁:=λobj s₁=>obj = .ref s.heap.objs.size/\s₁={ s with heap:=s.heap.push (jz [] 0 (zX w)) }) ⟨rfl,rfl⟩) λr s₁ hr=>?_;cases r with
 | error e=>exact hr
 | ok fl =>
  cases fl with
  | ret obj =>
   obtain⟨rfl,rfl⟩:=hr;have' hS:(s.heap.push (jz [] 0 (zX w))).get? s.heap.objs.size=some (jz [] 0 (zX w)):=Kl _ rfl;have hT:Shared.TypeIs { s with heap:=s.heap.push (jz [] 0 (zX w)) } (.ref s.heap.objs.size) "set":=⟨_,hS,rfl⟩;have' hli:_:=PySem.F.called_set.init.lookup;have' hbi:_:=PySem.F.called_set.init.bind (.ref s.heap.objs.size);repeat (any_goals (first | assumption | wp_step))
   refine codeAny_mono (codeAny_call_builtin (R:=wants (λr s₂=>r = .none/\Q (.ref s.heap.objs.size) s₂) E) PySem.F.called_set.init.plain PySem.F.entry_set_init (check_set_init_1 hT ?_)) λr₂ s₂ dR=>?_
   ·refine wpAny_mono (h _ ?_ ?_) (λfin s' q=>?_) λZZ ZZ e=>e.elim
    ·simp
    ·first | (refine(?_:A.units+1<=_);lia) | (refine(?_:A.units+1+1<=_);exact PK) | (refine(?_:A.units+1+1+1<=_);lia) | (refine(?_:A.units+1+1+1+1<=_);lia) | (refine(?_:A.units+1+1+1+1+1<=_);lia)
    ·obtain⟨rfl,q⟩:=q;exact⟨rfl,q⟩
   ·cases r₂ with
    | error e=>exact dR
    | ok mh =>
     cases mh with
     | ret r =>
      obtain⟨rfl,hq⟩:=dR;have' KP:_:=uJ _ hq;repeat (any_goals (first | assumption | wp_step))
     | _=>exact dR.elim
  | _=>exact hr.elim
end
end
section
set_option genSizeOf false
set_option genInjectivity false
open PySem PySem.W PySem.Calls PyProof.Rows
section
variable {prog:Program} {w:World} {A:Around} {E:Value->Shared->Prop} {s:Shared}
theorem Qp(h:Q₁ (.ref s.heap.objs.size) { s with heap:=s.heap.push (jz [] 0 (zX w)) }):
  codeAny (model prog w) A (.call (.builtin "set.__new__") ⟨[.type "set"],[]⟩) (wants Q₁ E) s:=by
 refine codeAny_of_tree ?_;refine(?_:wpAny _ A.in1 (do checkBuiltinCall "set.__new__" ⟨[.type "set"],[]⟩;again (.builtin "set.__new__" ⟨[.type "set"],[]⟩)) _ _ s);refine wpAny_bind (wpAny_of_eq PySem.F.newCall_set_0 (wpAny_pure ⟨plainId_quiet PySem.F.plain_set_new _,codeAny_builtin PySem.F.entry_set_new ?_⟩));refine ae (Around.under_plainId PySem.F.plain_set_new _) ?_;unfold Builtin.«set.__new__» Builtin.Frozenset.newClass;have' bV:_:=sub_set_self;obtain⟨hp,g,d,tk,os⟩:=s;wp_walk;refine wpAny_askSetting (wpAny_pure ?_);refine wpAny_bind (wpAny_alloc (wpAny_pure ?_));exact wpAny_pure h
set_option maxHeartbeats 3200000 in
theorem Qq(h:Q (.ref s.heap.objs.size) { s with heap:=s.heap.push (jz [] 0 (zX w)) }):
  wpAny (model prog w) A (call (.type "set") []) Q E s:=by
 refine Ja PySem.F.called_set.mro λc tl Dm=>?_;have' uK:_:=PySem.F.called_set.made;have' bV:_:=PySem.F.called_set.sub;refine wpAny_call (codeAny_of_tree ?_);refine(?_:wpAny _ _ (callAny (.type "set") _) _ _ _);refine wpAny_pure ⟨Code.quiet_builtin _ (by decide +kernel),codeAny_builtin PySem.F.entry_type_call ?_⟩;refine ae (Around.under_plain (weight_type_call_type "set" [] []) rfl) ?_;have' h1:_:=PySem.F.called_set.notType;have' h2:_:=PySem.F.called_set.canCreate;have' lu:_:=PySem.F.typeCall_set_0;repeat (any_goals (first | assumption | wp_step))
 refine codeAny_mono (Qp (E:=E) (Q₁:=λobj s₁=>obj = .ref s.heap.objs.size/\s₁={ s with heap:=s.heap.push (jz [] 0 (zX w)) }) ⟨rfl,rfl⟩) λr s₁ hr=>?_;cases r with
 | error e=>exact hr
 | ok fl =>
  cases fl with
  | ret obj =>
   obtain⟨rfl,rfl⟩:=hr;have hS:(s.heap.push (jz [] 0 (zX w))).get? s.heap.objs.size=some (jz [] 0 (zX w)):=Kl _ rfl;have hT:Shared.TypeIs { s with heap:=s.heap.push (jz [] 0 (zX w)) } (.ref s.heap.objs.size) "set":=⟨_,hS,rfl⟩;have' hli:_:=PySem.F.called_set.init.lookup;have' hbi:_:=PySem.F.called_set.init.bind (.ref s.heap.objs.size);repeat (any_goals (first | assumption | wp_step))
   refine codeAny_mono (codeAny_call_builtin (R:=wants (λr s₂=>r = .none/\Q (.ref s.heap.objs.size) s₂) E) PySem.F.called_set.init.plain PySem.F.entry_set_init (check_set_init hT ?_)) λr₂ s₂ dR=>?_
   ·unfold Builtin.«set.__init__» noKeywords;have' mj:(zX w).fits ([]:List (Int × Value)).toArray.size=true:=by rfl
    generalize hV:setUsed=V;wp_walk;subst hV;unfold setUsed;refine wpAny_bind (wpAny_setState_of hS rfl mj (wpAny_pure ?_));have' e0:((zX w).fill != 0)=false:=by rfl
    refine ae e0 ?_;refine ae (if_neg Kn) ?_;exact wpAny_pure ⟨rfl,h⟩
   ·cases r₂ with
    | error e=>exact dR
    | ok mh =>
     cases mh with
     | ret r =>
      obtain⟨rfl,hq⟩:=dR;repeat (any_goals (first | assumption | wp_step))
     | _=>exact dR.elim
  | _=>exact hr.elim
end
end
section
set_option genSizeOf false
set_option genInjectivity false
open PySem PySem.W PySem.Calls PyProof.Rows
section
variable {B:Bs} {A:Around} {own:Bool} {env:Env} {vs:Vs} {S:St}
theorem Yi(k:Ok B S X s)(hX:X it=none)(th:∃o,s.heap.get? it=some o)(k':Ok B S' (XH [it] X s.heap) s'):Ok B S' X s'/\S'.no it/\s'.heap.get? it=s.heap.get? it:=by
 refine⟨k.aE k',St.cK λc q=>?_,?_⟩
 ·have:=k'.4 it c q;refine aB th λo e=>?_;rw[ww hX (.head _),e]at this;injection this
 ·refine aB th λo e=>?_;refine ae e ?_;exact k'.2 it o ((ww hX (.head _)).trans e)
theorem GU(src:gH B){a it:Addr}{X:Addr->Option Obj}(Inv:Nat->St->Prop)(hh:A.handled=none)(hX:X it=none)(need:∀i S,Inv i S->src.need S)(step:∀i v S,i<src.n->src.P i v->Inv i S->V B A.in1 S (setAdd a v) (λZZ S'=>Inv (i+1) S')){R:Result->Shared->Prop}(hR:∀S s',Ok B S X s'->Inv src.n S->R (.ok (.ret .none)) s'):
  ∀(k i:Nat) (S:St) (s:Shared),src.n - i=k->i<=src.n->Ok B S X s->S.no it->src.It s.heap it i->Inv i S->codeAny (model B.prog B.w) A (.builtin "set.update.loop" ⟨[.ref a,.ref it],[]⟩) R s:=by
 intro k;induction k with
 | zero =>
  intro i S s hk hi o hS hit hI;have' e:i=src.n:=CD hk hi;subst e;refine codeAny_builtin PyProof.Rows.F.entry_set_update_loop ?_;refine ae (Around.under_plainId PyProof.Rows.F.plain_set_update_loop _) ?_;refine(?_:wpAny _ A.in1 (pyNext (.ref it) >>= _) _ _ s);refine wpAny_bind (wpAny_mono (src.stop (Q:=λr s₁=>r=none/\Ok B S X s₁) (by simp[hh]) o (need _ _ hI) hit λh' hs=>⟨rfl,o.bx (T:=[it]) (λa m=>ae (Kf.mp m) hX) (λa m=>ae (Kf.mp m) hS) (yg.of (.head _) hs) s.toks⟩) (λr s₁ q=>?_) λZZ ZZ e=>e.elim);obtain⟨rfl,o₁⟩:=q;refine(?_:wpAny _ A.in1 (ret Value.none) _ _ _);exact wpAny_pure (hR S _ o₁ hI)
 | succ k ih =>
  intro i S s hk hi o hS hit hI;have aC:i<src.n:=CH hk hi;refine codeAny_builtin PyProof.Rows.F.entry_set_update_loop ?_;refine ae (Around.under_plainId PyProof.Rows.F.plain_set_update_loop _) ?_;refine(?_:wpAny _ A.in1 (pyNext (.ref it) >>= _) _ _ s);refine wpAny_bind (wpAny_mono (src.item (Q:=λr s₁=>∃v,r=some v/\src.P i v/\src.It s₁.heap it (i+1)/\Ok B S X s₁) o (need _ _ hI) hit aC λv h' tk hP bw hs=>⟨v,rfl,hP,bw,o.bx (T:=[it]) (λa m=>ae (Kf.mp m) hX) (λa m=>ae (Kf.mp m) hS) (yg.of (.head _) hs.extBut) tk⟩) (λr s₁ q=>?_) λZZ ZZ e=>e.elim);obtain⟨v,rfl,hP,bw,o₁⟩:=q;refine(?_:wpAny _ A.in1 (holding [v] (setAdd a v) >>= _) _ _ s₁);have' uL:∀a∈[it],S.no a:=λa m=>ae (Kf.mp m) hS;refine wpAny_bind (wpAny_holding (wpAny_mono (step i v S aC hP hI _ s₁ (o₁.hide uL)) (λZZ s₂ q=>?_) λZZ ZZ e=>e.elim));obtain⟨S₂,o₂,uM⟩:=q;refine JR (Yi o₁ hX (src.there bw) o₂) λk₂ n₂ e₂=>?_;exact wpAny_pure ⟨plainId_quiet PyProof.Rows.F.plain_set_update_loop _,ih (i+1) S₂ s₂ (CI hk aC hi) aC k₂ n₂ (src.keep bw e₂) uM⟩
theorem KQ{T:String}(h1:isSubtype (.type T) (.type "set")=pure false)(h2:isSubtype (.type T) (.type "frozenset")=pure false){s:Shared}{v:Value}{Q:Bool->Shared->Prop}{E:Value->Shared->Prop}(hT:s.TypeIs v T)(h:Q false s):wpAny (model B.prog B.w) A (Builtin.Frozenset.isAnySet v) Q E s:=by
 refine wpAny_bind (wpAny_isInstance hT h1 ?_);exact wpAny_isInstance hT h2 h
theorem Qr:isSubtype (.type "tuple") (.type "set")=pure false:=by rw[isSubtype_type];kernel_rfl
theorem gI:isSubtype (.type "tuple") (.type "frozenset")=pure false:=by rw[isSubtype_type];kernel_rfl
theorem xo(src:gH B){id:String}{a:Addr}{c:jn}{x:Addr}(Inv:Nat->St->Prop)(hh:A.handled=none)(eX:src.val = .ref x)(hx:S.has x c)(hc:c.ty="list"\/c.ty="tuple")(need:∀i S,Inv i S->src.need S)(step:∀i v S (A':Around),A'.handled=none->A'.units<=A.units+20->i<src.n->src.P i v->Inv i S->V B A' S (setAdd a v) (λZZ S'=>Inv (i+1) S')){Q:Unit->St->Prop}(h0:Inv 0 S)(h:∀S',Inv src.n S'->Q () S'):
  V B A S (Builtin.Frozenset.updateFrom id a (.ref x)) Q:=λX s o=>by
 have hT:s.TypeIs (.ref x) c.ty:=o.typeIs hx (by rcases hc with e | e <;> refine ae e ?_ <;> decide);have rt:∀{Q:Bool->Shared->Prop} {E},Q false s->wpAny (model B.prog B.w) A (Builtin.Frozenset.isAnySet (.ref x)) Q E s:=λq=>by
  rcases hc with e | e
  ·rw[e]at hT;exact KQ PySem.F.sub_list_set PySem.F.sub_list_frozenset hT q
  ·rw[e]at hT;exact KQ Qr gI hT q
 refine wpAny_bind (rt ?_);refine ae (if_neg Kn) ?_;refine wpAny_bind (wpAny_typeOf hT ?_);have' nd:¬((Value.type c.ty == Value.type "dict")=true):=by rcases hc with e | e <;> refine ae e ?_ <;> decide
 refine ae (if_neg nd) ?_;refine wpAny_bind ?_;refine aR eX ?_;refine src.start o (need _ _ h0) λoi hf hit=>?_;have hX:=o.lt.2.1;have hS:=o.lt.1;have' ext:yg [s.heap.objs.size] s.heap (s.heap.push oi):=λb ob ZZ e=>Ke _ e;have' k₁:_:=o.bx (T:=[s.heap.objs.size]) (λa m=>ae (Kf.mp m) hX) (λa m=>ae (Kf.mp m) hS) ext s.toks;refine wpAny_bind (wpAny_runValue ?_);refine GU src Inv hh hX need (λi v S aC hP hI=>step i v S _ (by simp[hh]) (by refine(?_:A.units+1<=_);exact Hz) aC hP hI) (λS' s' o' eW=>?_) (src.n - 0) 0 S _ rfl (Kt _) k₁ hS hit h0;exact wpAny_pure ⟨S',o',h S' eW⟩
end
end
section
set_option genSizeOf false
set_option genInjectivity false
open PySem PySem.W PySem.Calls PyProof.Rows
theorem jb[DecidableEq α]:∀{l U:List α},l.Nodup->(∀x∈l,x∈U)->l.length<=U.length:=by
 intro zl;induction zl with
 | nil =>
  intro U _ _;exact Kt _
 | cons x r ih =>
  intro U h hs;rw[List.nodup_cons]at h;have hx:=hs x (.head _);have' this:_:=ih (U:=U.erase x) h.2 λy hy=>(List.mem_erase_of_ne (fun(e:y=x)=>h.1 (aR e hy))).mpr (hs y (.tail _ hy));rw[List.length_erase_of_mem hx]at this;have' this:_:=Vc hx;exact ae Lj (PL this ‹_›)
theorem St.cU{S:St}{r:Rg}{a:Addr}{c:jn}(h:S.get r a=some c):S.put r a c=S:=by
 have e:upd (S.get r) a c=S.get r:=by
  funext b
  unfold upd;split
  ·rename_i e;refine ae e ?_;refine ae h ?_;rfl
  ·rfl
 unfold St.put;refine ae e ?_;cases r <;> rfl
theorem St.cV{S:St}{r:Rg}{a:Addr}{c c':jn}:(S.put r a c).put r a c'=S.put r a c':=by
 cases r <;> (unfold St.put;simp only[St.get,St.to];rw[IJ])
theorem St.aY{S:St}{r:Rg}{a:Addr}{c:jn}:(S.put r a c).get r a=some c:=by
 rw[St.bk,za]
section
variable {B:Bs} {A:Around} {own:Bool} {env:Env} {vs:Vs} {S:St}
noncomputable def qm(B:Bs)(es:List (Int × Value))(t:SetTable):Prop:=A3
 (yI es)
 (TB B es t)
 ((zn es).Nodup)
theorem zP(es:List (Int × Value)):(zn es).length=es.length:=by unfold zn;rw[List.length_map]
theorem wI(ha:S.get r a=some (.set es t))(I:qm B es t)(hz:k∉zn es->es.length<=14)(h:∀b es' t',qm B es' t'->(∀x,x∈zn es'↔x∈zn es\/x=k)->Q b (S.put r a (.set es' t'))):V B A S (setAdd a (.int k u)) Q:=λX s o=>by
 refine aB (o.set (St.az ha)) λn e=>?_;refine Zy e I.1 I.2 (λtk hk=>?_) λhk=>⟨hz hk,λh' es' n' t' tk a1 a2 a3 a4=>?_⟩
 ·have' this:_:=h false es t I (λx=>⟨.inl,λq=>q.elim id λe=>e▸hk⟩);rw[St.cU ha]at this;exact⟨S,o.toks tk,this⟩
 ·have p:=gy a3;have e1:zn (es++[(hashInt k,Value.int k u)])=zn es++[k]:=by unfold zn;refine ae K2 ?_;rfl
  rw[e1]at p;refine⟨_,o.put (c':=.set es' t') ha a1 ⟨_,a2,n',rfl⟩ tk,h true es' t' ⟨(I.1.push k u).perm a3,a4,?_⟩ λx=>?_⟩
  ·refine p.symm.nodup ?_;rw[List.nodup_append];exact⟨I.3,(Ll _ _),λx hx y hy e=>hk (aR (Kf.mp hy) (aR e hx))⟩
  ·rw[p.mem_iff,List.mem_append,List.mem_singleton]
theorem XX(hh:A.handled=none)(h:∀c (A':Around),A'.handled=none->A'.units<=A.units+20->S.no c->V B A' (S.put r c (.set [] (zX B.w))) (Builtin.Frozenset.updateFrom "set.__init__" c (.ref x)) (λZZ S'=>(∃es t,S'.get r c=some (.set es t))/\Q (.ref c) S')):
  V B A S (call (.type "set") ([]++[.ref x])) Q:=λX s o=>by
 refine wpAny_mono (XW (Q:=λv s'=>s'.TypeIs (.ref s.heap.objs.size) "set"/\Pv B X (Q v) s') (λA' e1 e2=>?_) λs' q=>q.1) (λv s' q=>q.2) λZZ ZZ e=>e;have' k1:_:=o.new (r:=r) (c':=.set [] (zX B.w)) o.lt.1 o.lt.2 (h':=s.heap.push (jz [] 0 (zX B.w))) (λb ob q e=>Ke _ q) ⟨_,Kl _ rfl,0,rfl⟩ { s with heap:=s.heap.push (jz [] 0 (zX B.w)) } rfl rfl rfl;have hS:(s.heap.push (jz [] 0 (zX B.w))).get? s.heap.objs.size=some (jz [] 0 (zX B.w)):=Kl _ rfl;have' hT:Shared.TypeIs { s with heap:=s.heap.push (jz [] 0 (zX B.w)) } (.ref s.heap.objs.size) "set":=⟨_,hS,rfl⟩;have' mj:(zX B.w).fits ([]:List (Int × Value)).toArray.size=true:=by rfl
 unfold Builtin.«set.__init__» noKeywords;generalize hU:Builtin.Frozenset.updateFrom=U;generalize hV:setUsed=V;wp_walk;subst hV;unfold setUsed;refine wpAny_bind (wpAny_setState_of hS rfl mj (wpAny_pure ?_));have' e0:((zX B.w).fill != 0)=false:=by rfl
 refine ae e0 ?_;refine ae (if_neg Kn) ?_;subst hU;refine wpAny_bind (wpAny_mono (h s.heap.objs.size A' (e1.trans hh) e2 o.lt.1 X _ k1) (λZZ s' q=>?_) λZZ ZZ e=>e);obtain⟨S',o',⟨es,t,hc⟩,q⟩:=q;refine wpAny_pure ⟨rfl,?_,S',o',q⟩;refine aB (o'.set (St.az hc)) λn e=>?_;exact⟨_,e,rfl⟩
theorem wd{x:Addr}{c:jn}{xs:List Value}{ns U:List Int}{r:Rg}(hh:A.handled=none)(hx:S.has x c)(hc:c = .list xs\/c = .tup xs)(hI:IntsAre xs ns)(hU:∀n∈ns,n∈U)(hz:U.length<=15)(h:∀a es t,S.no a->qm B es t->(∀z,z∈zn es↔z∈ns)->Q (.ref a) (S.put r a (.set es t))):V B A S (call (.type "set") ([]++[.ref x])) Q:=by
 refine XX (r:=r) hh λa A' h1 h2 aH=>?_;have' aO:x≠a:=λe=>St.bu aH (e▸hx);have nJ:∀es t,(S.put r a (.set es t)).has x c:=λes t=>by
  refine aB hx λr' q=>?_;refine⟨r',?_⟩;by_cases e:r'=r
  ·subst e;rewrite [St.bk];refine ae (zb _ _ aO) ?_;exact q
  ·exact ae (St.b8 _ _ e) q
 have step:∀(src:gH B),src.val = .ref x->(src.n=xs.length)->(∀i v,src.P i v->xs[i]? = some v)->(∀es t,src.need (S.put r a (.set es t)))->
   V B A' (S.put r a (.set [] (zX B.w))) (Builtin.Frozenset.updateFrom "set.__init__" a (.ref x)) (λZZ S'=>(∃es t,S'.get r a=some (.set es t))/\Q (.ref a) S'):=by
  intro src hv hn hP uN;refine xo src (c:=c) (λi S'=>∃es t,S'=S.put r a (.set es t)/\qm B es t/\∀z,z∈zn es↔z∈ns.take i) h1 hv (nJ _ _) (by rcases hc with e | e <;> refine ae e ?_ <;> simp[jn.ty]) (λi S' zp=>by refine j8 zp λes t e ZZ=>?_;exact e▸uN es t) (λi v S' KS h3 h4 aC hp eW=>?_)
   ⟨[],zX B.w,rfl,⟨λe he=>(nomatch he),gz B.w,L3⟩,λz=>by simp[zn]⟩ (λS' eW=>?_)
  ·refine g8 eW λes t bR I hm=>?_;obtain rfl:=bR;refine j8 (hI.at i v (hP i v hp)) λn u bo uO=>?_;obtain rfl:=bo;refine wI St.aY I (λhk=>?_) λb es' t' I' dx=>⟨es',t',St.cV,I',λz=>?_⟩
   ·have' sub:∀y∈n::zn es,y∈U:=λy hy=>by
     rcases Kw.mp hy with rfl | hy
     ·exact hU _ (Kx uO)
     ·exact hU _ (Mz ((hm y).mp hy))
    have' this:_:=jb (M8.mpr ⟨hk,I.3⟩) sub;rw[List.length_cons,zP]at this;exact CK this hz
   ·rewrite [dx,hm];refine ae Lu ?_;refine ae uO ?_;rw[List.mem_append];simp
  ·refine g8 eW λes t bG I hm=>?_;obtain rfl:=bG;refine⟨⟨es,t,St.aY⟩,h a es t aH I λz=>?_⟩;rewrite [hm];refine ae hn ?_;refine ae hI.length ?_;refine ae Mc ?_;rfl
 rcases hc with rfl | rfl
 ·exact step (zf B x xs) rfl rfl (λi v h=>h) (nJ)
 ·exact step (jp B x xs) rfl rfl (λi v h=>h) (nJ)
theorem wf(ha:S.has a (.set es t))(h:∀A':Around,A'.handled=A.handled->A'.units<=A.units+20->V B A' S (Builtin.Frozenset.updateFrom "set.update" a (.ref x)) (λZZ S'=>Q .none S')):V B A S (call (.builtin "set.update") ([.ref a]++[.ref x])) Q:=λX s o=>by
 refine aB (o.set ha) λn e=>?_;have' hT:s.TypeIs (.ref a) "set":=⟨_,e,rfl⟩;refine wpAny_call_entry PySem.F.slot_set_update hT PySem.F.entry_set_update ?_ (PySem.F.args_set_update_2 _ _);refine wpAny_bind (m:=Builtin.Frozenset.manyOthers "update" ⟨[Value.ref a,Value.ref x],[]⟩) (wpAny_of_eq (a:=(a,[Value.ref x])) (by rfl) ?_);dsimp only;rw[List.forIn_cons];refine wpAny_bind (wpAny_bind (wpAny_bind (wpAny_mono (h A.in1 rfl (by refine(?_:A.units+1<=_);exact Hz) X s o) (λZZ s' q=>?_) λZZ ZZ e=>e.elim)));obtain⟨S',o',q⟩:=q;refine wpAny_pure ?_;dsimp only;refine ae List.forIn_nil ?_;exact wpAny_pure (wpAny_pure ⟨_,rfl,S',o',q⟩)
theorem St.iF(hx:S.has x c)(ha:S.get r a=some c₀)(one:S.One a)(n:c≠c₀):(S.put r a c').has x c:=by
 have' aO:x≠a:=λe=>by
  subst e;refine aB hx λr' q=>?_;obtain rfl:=one _ _ _ _ q ha;rw[ha]at q;obtain rfl:=Option.some.inj q;exact n rfl
 refine aB hx λr' q=>?_;refine⟨r',?_⟩;by_cases e:r'=r
 ·subst e;rewrite [St.bk];refine ae (zb _ _ aO) ?_;exact q
 ·exact ae (St.b8 _ _ e) q
theorem zdZ(h:S.One a->V B A S t Q):V B A S t Q:=λX s o=>h (o.5 a) X s o
theorem wJ{ns U:List Int}(hh:A.handled=none)(hx:S.has x (.tup xs))(hI:IntsAre xs ns)(ha:S.get r a=some (.set es t))(I:qm B es t)(hU:∀n∈ns,n∈U)(cI:∀n∈zn es,n∈U)(hz:U.length<=15)(h:∀es' t',qm B es' t'->(∀z,z∈zn es'↔z∈zn es\/z∈ns)->Q .none (S.put r a (.set es' t'))):V B A S (call (.builtin "set.update") ([.ref a]++[.ref x])) Q:=by
 refine zdZ (a:=a) λone=>wf (St.az ha) λA' h1 h2=>?_;have' nJ:∀es' t',(S.put r a (.set es' t')).has x (.tup xs):=λes' t'=>St.iF hx ha one (by intro e;injection e);refine xo (jp B x xs) (c:=.tup xs) (λi S'=>∃es' t',S'=S.put r a (.set es' t')/\qm B es' t'/\∀z,z∈zn es'↔z∈zn es\/z∈ns.take i) (h1.trans hh) rfl hx (by simp[jn.ty]) (λi S' zp=>by refine j8 zp λes t e ZZ=>?_;exact e▸nJ es t) (λi v S' KS h3 h4 aC hp eW=>?_)
  ⟨es,t,(St.cU ha).symm,I,λz=>by simp⟩ (λS' eW=>?_)
 ·refine g8 eW λes' t' cA I' hm=>?_;obtain rfl:=cA;refine j8 (hI.at i v hp) λn u cj uO=>?_;obtain rfl:=cj;refine wI St.aY I' (λhk=>?_) λb iG Dn I'' dx=>⟨iG,Dn,St.cV,I'',λz=>?_⟩
  ·have' sub:∀y∈n::zn es',y∈U:=λy hy=>by
    rcases Kw.mp hy with rfl | hy
    ·exact hU _ (Kx uO)
    ·rcases(hm y).mp hy with q | q
     ·exact cI _ q
     ·exact hU _ (Mz q)
   have' this:_:=jb (M8.mpr ⟨hk,I'.3⟩) sub;rw[List.length_cons,zP]at this;exact CK this hz
  ·rewrite [dx,hm];refine ae Lu ?_;refine ae uO ?_;rw[List.mem_append,or_assoc];simp
 ·refine g8 eW λes' t' eB I' hm=>?_;obtain rfl:=eB;refine h es' t' I' λz=>?_;have' e:(jp B x xs).n=xs.length:=rfl;rewrite [hm];refine ae e ?_;refine ae hI.length ?_;refine ae Mc ?_;rfl
end
end
section
set_option genSizeOf false
set_option genInjectivity false
open PySem PySem.W PySem.Calls PyProof.Rows
section
variable {prog:Program} {w:World} {A:Around} {E:Value->Shared->Prop} {s:Shared}
noncomputable def qh(w:World)(h:Heap)(a:Addr)(es:List (Int × Value)):Prop:=A3
 (E2 λn t=>h.get? a=some (jz es n t)/\zT t es.length (!zW w))
 (yI es)
 ((zn es).Nodup)
theorem zaQ(hl:∀a∈l,∃es,qh w s.heap a es)(h:Q true s):wpAny (model prog w) A (setsQuiet l) Q E s:=by
 refine wpAny_bind ?_;refine wpAny_forIn_list _ (λrest r s'=>r.1=none/\s'=s/\∀a∈rest,∃es,qh w s.heap a es) _ ?_ ?_ _ _ ⟨rfl,rfl,hl⟩
 ·intro a rest r s' bZ;refine Qe bZ λhr bo bS=>?_;obtain rfl:=bo;obtain⟨es,⟨n,t,ha,T⟩,hi,_⟩:=bS a (.head _);refine wpAny_bind (wpAny_setEntries_of ha rfl (ae Kd T.wide.fits) ?_);refine wpAny_bind ?_;refine aR M9 ?_;refine wpAny_forIn_list _ (λrest r ru=>r.1=none/\ru=s'/\∀e∈rest,∃n t,e=(hashInt n,Value.int n t)) _ ?_ ?_ _ _ ⟨rfl,rfl,hi⟩
  ·intro e KU r ru iC;refine Qe iC λhr cA o6=>?_;obtain rfl:=cA;refine Jb (o6 e (.head _)) λn t cj=>?_;obtain rfl:=cj;exact wpAny_pure ⟨rfl,rfl,λx hx=>o6 x (.tail _ hx)⟩
  ·rintro⟨r1,r2⟩ ru eV;refine Qe eV λhr dy ZZ=>?_;obtain rfl:=dy;simp only at hr;subst hr;exact wpAny_pure ⟨rfl,rfl,λx hx=>bS x (.tail _ hx)⟩
 ·rintro⟨r1,r2⟩ s' ml;refine Qe ml λhr eC ZZ=>?_;obtain rfl:=eC;simp only at hr;subst hr;exact wpAny_pure h
theorem ZD(aO:a≠f)(Ha:qh w s.heap a es)(Hf:qh w s.heap f ef)(h:∀es' h' d,es'.toList.Perm es->Heap.SameBut f s.heap h'->qh w h' f ef->Q es' { s with heap:=h',drawn:=d }):wpAny (model prog w) A (setWalkUnseen a [f] (some f)) Q E s:=by
 refine xC Ha.1 λn t ha T=>?_;refine xC Hf.1 λm tf hf Tf=>?_;have' fa:t.fits es.toArray.size=true:=ae Kd T.wide.fits;have' ff:tf.fits ef.toArray.size=true:=ae Kd Tf.wide.fits;refine wpAny_bind (wpAny_setState_of ha rfl fa ?_);refine wpAny_bind (wpAny_bind (wpAny_askSetting (wpAny_pure ?_)));have walk:wpAny (model prog w) A (setWalk a) Q E s:=Ql ha T.wide λes' d hp=>h es' s.heap d hp (Heap.SameBut.refl ..) Hf;split
 ·exact walk
 ·refine wpAny_bind (zaQ (λx hx=>?_) ?_)
  ·rcases Kw.mp hx with rfl | hx
   ·exact⟨es,Ha⟩
   ·exact ae (Kf.mp hx) ⟨ef,Hf⟩
  ·refine ae (if_neg Kn) ?_;refine wpAny_bind (wpAny_rule ?_);refine wpAny_bind (wpAny_setState_of hf rfl ff ?_);dsimp only;have' me:wpAny (model prog w) A (pure es.toArray) Q E s:=wpAny_pure (h es.toArray s.heap s.drawn (by simp) (Heap.SameBut.refl ..) Hf);split
   ·refine wpAny_bind (wpAny_storeSet_of hf rfl ?_ (by refine ae Kd ?_;refine ae sizeLine_eq ?_;exact Hq Tf.3 (nW Tf.4).2));refine wpAny_pure (h es.toArray _ s.drawn (by simp) (Heap.SameBut.update ..) ⟨⟨_,_,qt hf _ _,?_⟩,Hf.2,Hf.3⟩);exact⟨Tf.1,Tf.2,Tf.3,Tf.4,by refine(?_:(tf.led&&t.led)=_);refine ae Tf.5 ?_;refine ae T.5 ?_;rw[Bool.and_self],Tf.6⟩
   ·exact me
end
end
section
set_option genSizeOf false
set_option genInjectivity false
open PySem PySem.W PySem.Calls PyProof.Rows
section
variable {prog:Program} {w:World} {A:Around} {E:Value->Shared->Prop} {s:Shared}
theorem Qs(Ha:qh w s.heap a es)(h1:es.length<=15)(h2:m<=15)(h:∀h' es' n' t',Heap.SameBut a s.heap h'->h'.get? a=some (jz es' n' t')->es'.Perm es->zT t' es'.length (!zW w)->5*(es'.length+m)<3*t'.mask->Q () { s with heap:=h' }):wpAny (model prog w) A (setRoomFor a m) Q E s:=by
 refine xC Ha.1 λn t ha T=>?_;have' fa:t.fits es.toArray.size=true:=ae Kd T.wide.fits;refine wpAny_bind (wpAny_setState_of ha rfl fa ?_);dsimp only;have fill:t.fill=es.length:=T.wide.fill;by_cases c:(t.fill+m)*5≥t.mask*3
 ·have' e:t.roomFor m=some ((t.place.size+m)*2):=by unfold SetTable.roomFor;refine ae (if_pos c) ?_;rfl
  refine ae e ?_;dsimp only;refine ae T.1 ?_;have' h4:4<es.length+m:=by
   rw[fill]at c;exact Xv c (nW T.4).1
  refine bE (J9 h1 h2 h4) λg r=>?_;refine Z0 ha T.wide g (PN r) λh' es' n' t' a1 a2 a3 a4 a5 ZZ ZZ=>h h' es' n' t' a1 a2 a3 a4 ?_;exact ae a3.length_eq (ae a5 r)
 ·have' e:t.roomFor m=none:=by unfold SetTable.roomFor;refine ae (if_neg c) ?_;rfl
  refine ae e ?_;dsimp only;refine wpAny_pure (h s.heap es n t (Heap.SameBut.refl ..) ha (List.Perm.refl _) T ?_);rw[fill]at c;exact PO c
theorem yt(p:es'.Perm es):∀z,z∈zn es'↔z∈zn es:=λz=>(gy p).mem_iff
theorem qh.ko(I:yI es)(nd:(zn es).Nodup)(p:es'.Perm es)(ha:h.get? a=some (jz es' n t))(T:zT t es'.length (!zW w)):qh w h a es' :=
 ⟨⟨n,t,ha,T⟩,I.perm p,(gy p).symm.nodup nd⟩
theorem Yj{U:List Int}(aO:a≠b)(Ha:qh w s.heap a es)(Hb:qh w s.heap b eb)(hU:∀n∈zn es,n∈U)(cI:∀n∈zn eb,n∈U)(hz:U.length<=15)(uP:∀{Q':Unit->Shared->Prop} {E':Value->Shared->Prop} (s':Shared),s'.heap.get? b=s.heap.get? b->Q' () s'->wpAny (model prog w) A each Q' E' s')(h:∀h' es' d,Heap.SameBut a s.heap h'->qh w h' a es'->(∀z,z∈zn es'↔z∈zn es\/z∈zn eb)->Q () { s with heap:=h',drawn:=d }):wpAny (model prog w) A (setMerge a b each) Q E s:=by
 refine xC Hb.1 λnb tb hb Tb=>?_;have fb:tb.fits eb.toArray.size=true:=ae Kd Tb.wide.fits;have' aU:es.length<=15:=by have' this:_:=jb Ha.3 hU;rw[zP]at this;exact bX this hz
 have bt:eb.length<=15:=by have' this:_:=jb Hb.3 cI;rw[zP]at this;exact bX this hz
 unfold setMerge;have' nab:¬((a == b)=true):=by simpa using aO
 refine ae (if_neg nab) ?_;refine wpAny_bind (wpAny_setState_of hb rfl fb ?_);dsimp only;by_cases he:eb.toArray.isEmpty=true
 ·refine ae (if_pos he) ?_;have' this:eb=[]:=by simpa using he
  subst this;exact wpAny_pure (h s.heap es s.drawn (Heap.SameBut.refl ..) Ha λz=>by simp[zn])
 refine ae (if_neg he) ?_;refine ae Kd ?_;refine wpAny_bind (Qs Ha aU bt λh1 cq n1 t1 Dp rx p1 T1 uQ=>?_);have' f1:t1.fits cq.toArray.size=true:=ae Kd T1.wide.fits;have' fQ:h1.get? b=some (jz eb nb tb):=(Dp.2 b (Ne.symm aO)).trans hb;refine wpAny_bind (wpAny_setState_of (s:={ s with heap:=h1 }) rx rfl f1 ?_);dsimp only;have mq:t1.fill=cq.length:=T1.wide.fill;by_cases c:cq.length=0
 ·have' e1:cq=[]:=Lk.mp c;have' e2:es=[]:=Lk.mp (aR p1.length_eq c);have fin:∀(e':Array (Int × Value)) (t':SetTable),e'.toList.Perm eb->zT t' e'.toList.length (!zW w)->Q () { s with heap:=h1.update a (Obj.putSet e' t') }:=λe' t' p T'=>by
   have' H:qh w (h1.update a (Obj.putSet e' t')) a e'.toList:=qh.ko Hb.2 Hb.3 p (qt rx e' t') T';exact h _ e'.toList s.drawn (Dp.trans (Heap.SameBut.update ..)) H λz=>by rewrite [yt p];refine ae e2 ?_;simp[zn]
  by_cases d:(t1.mask == tb.mask&&tb.dummies.isEmpty)=true
  ·have' er:t1.road tb = .slotForSlot:=by
    unfold SetTable.road;exact ae mq (ae c (ae d rfl))
   refine ae er ?_;dsimp only;refine wpAny_storeSet_of (s:={ s with heap:=h1 }) rx rfl (fin eb.toArray _ (List.Perm.refl _) ?_) (ae Kd (ae sizeLine_eq (zS bt rfl)));exact⟨Tb.1,Tb.2,Tb.3,Tb.4,by refine(?_:(t1.led&&tb.led)=_);refine ae T1.5 ?_;refine ae Tb.5 ?_;rw[Bool.and_self],Tb.6⟩
  ·have' d':(t1.mask == tb.mask&&tb.dummies.isEmpty)=false:=by simpa using d
   have' er:t1.road tb = .clean:=by
    unfold SetTable.road;exact ae mq (ae c (ae d' rfl))
   refine ae er ?_;dsimp only;obtain⟨t',order,l1,l2,l3,l4⟩:=Zw (finger:=t1.finger) (moves:=t1.moves) (led:=t1.led&&tb.led) (plain:=t1.plain&&tb.plain) T1.4 (eb.toArray.map (·.1)) (ae Vv (ae Kd (PQ uQ c)));rw[Array.size_map,List.size_toArray]at l2 l4;refine ae l1 ?_;have hs:(order.filterMap (eb.toArray[·]?)).size=eb.toArray.size:=Zx (ae Kd l4);refine wpAny_bind (m:=do
    let es':=order.filterMap (eb.toArray[·]?)
    if es'.size != eb.toArray.size then unsupported "internal:set-table-lost-an-element"
    pure (es',t')) ?_
   dsimp only;refine ae hs ?_;refine ae (if_neg Bh) ?_;refine wpAny_pure ?_;dsimp only;have aS:(order.filterMap (eb.toArray[·]?)).size=eb.length:=ae hs (ae Kd rfl);refine wpAny_storeSet_of (s:={ s with heap:=h1 }) rx rfl ?_ (ae aS (ae sizeLine_eq (zS bt rfl)));exact fin (order.filterMap (eb.toArray[·]?)) t' (gx (es:=eb.toArray) (ae Kd l4)) (by
    refine ae K7 ?_;refine ae aS ?_;rw[T1.5,Tb.5,Bool.and_self]at l2;exact l2)
 ·have' er:t1.road tb = .oneByOne:=by
   unfold SetTable.road;refine ae mq ?_;exact ae (if_pos (by simpa using c)) rfl
  refine ae er ?_;dsimp only;have' H1:qh w h1 a cq:=qh.ko Ha.2 Ha.3 p1 rx T1;have' Hb1:qh w h1 b eb:=⟨⟨nb,tb,fQ,Tb⟩,Hb.2,Hb.3⟩;refine wpAny_bind (ZD (s:={ s with heap:=h1 }) (Ne.symm aO) Hb1 H1 λeu h2 d2 p2 Dq H2=>?_);replace Dq:Heap.SameBut a h1 h2:=Dq;refine wpAny_bind ?_;refine aR M9 ?_;refine wpAny_forIn_list _ (λrest ZZ s'=>∃h' e' done,s'={ s with heap:=h',drawn:=d2 }/\eu.toList=done++rest/\Heap.SameBut a s.heap h'/\qh w h' a e'/\∀z,z∈zn e'↔z∈zn es\/z∈zn done) _ ?_ ?_ _ _
   ⟨h2,cq,[],rfl,rfl,Dp.trans Dq,H2,λz=>by rw[yt p1];simp[zn]⟩
  ·intro e rest _ s' bZ;refine q8 bZ λh' e' done bo hl sb H' hm=>?_;obtain rfl:=bo;have uR:e∈eb:=p2.mem_iff.mp (by refine ae hl ?_;exact Vh _ (.head _));refine Jb (Hb.2 e uR) λk u bG=>?_;obtain rfl:=bG;refine xC H'.1 λn' t' iD T'=>?_;have' hbk:h'.get? b=s.heap.get? b:=sb.2 b (Ne.symm aO);have cont:∀(dN:Heap) (Bv:List (Int × Value)),Heap.SameBut a s.heap dN->qh w dN a Bv->(∀z,z∈zn Bv↔z∈zn e'\/z=k)->
     wpAny (model prog w) A (each >>= λZZ=>setState b >>= λx=>if (x.2.1 != nb)=true then(unsupported "set.changed-during-merge" >>= fun(_:Unit)=>pure (ForInStep.yield PUnit.unit)) else pure (ForInStep.yield PUnit.unit)) (λr s'=>match r with | .yield b'=>∃h' e' done,s'={ s with heap:=h',drawn:=d2 }/\eu.toList=done++rest/\Heap.SameBut a s.heap h'/\qh w h' a e'/\∀z,z∈zn e'↔z∈zn es\/z∈zn done | .done b'=>wpAny (model prog w) A (pure ()) Q E s') E { s with heap:=dN,drawn:=d2 }:=by
    intro dN Bv ry H'' Dr;refine wpAny_bind (uP _ (ry.2 b (Ne.symm aO)) ?_);refine wpAny_bind (wpAny_setState_of (s:={ s with heap:=dN,drawn:=d2 }) ((ry.2 b (Ne.symm aO)).trans hb) rfl fb ?_);dsimp only;refine ae (if_neg Bh) ?_;refine wpAny_pure ⟨dN,Bv,done++[(hashInt k,Value.int k u)],rfl,by refine ae hl ?_;exact(List.append_cons ..),ry,H'',λz=>?_⟩;rw[Dr,hm];unfold zn;refine ae K2 ?_;rw[List.mem_append];simp[rh,or_assoc]
   refine wpAny_bind (wpAny_holding ?_);refine wE (s:={ s with heap:=h',drawn:=d2 }) iD H'.2 T' (λhk=>?_) λhk=>⟨?_,λdN iG n'' Dn b1 b2 b3 b4=>?_⟩
   ·exact wpAny_mono (cont h' e' sb H' λz=>⟨.inl,λq=>q.elim id λe=>e▸hk⟩) (λr s' q=>by cases r <;> exact q) λZZ ZZ e=>e
   ·have' sub:∀y∈k::zn e',y∈U:=λy hy=>by
     rcases Kw.mp hy with rfl | hy
     ·exact cI _ (Kr.mpr ⟨_,uR,rfl⟩)
     ·rcases(hm y).mp hy with q | q
      ·exact hU _ q
      ·refine cI _ ((yt p2 y).mp ?_);refine ae hl ?_;unfold zn;refine ae K2 ?_;exact Vj _ q
    have' this:_:=jb (M8.mpr ⟨hk,H'.3⟩) sub;rw[List.length_cons,zP]at this;exact CK this hz
   ·have p:=gy b3;have e1:zn (e'++[(hashInt k,Value.int k u)])=zn e'++[k]:=by unfold zn;refine ae K2 ?_;rfl
    rw[e1]at p;have' nd2:(zn iG).Nodup:=by
     refine p.symm.nodup ?_;rw[List.nodup_append];exact⟨H'.3,(Ll _ _),λx hx y hy e=>hk (aR (Kf.mp hy) (aR e hx))⟩
    exact wpAny_mono (cont dN iG (sb.trans b1) ⟨⟨n'',Dn,b2,b4⟩,(H'.2.push k u).perm b3,nd2⟩ λz=>by rw[p.mem_iff,List.mem_append,List.mem_singleton]) (λr s' q=>by cases r <;> exact q) λZZ ZZ e=>e
  ·intro _ s' fS;refine q8 fS λh' e' done cj hl sb H' hm=>?_;obtain rfl:=cj;rw[List.append_nil]at hl;subst hl;refine wpAny_pure (h h' e' d2 sb H' λz=>?_);rw[hm,yt p2]
end
end
section
set_option genSizeOf false
set_option genInjectivity false
open PySem PySem.W PySem.Calls PyProof.Rows PySem.SeqAt
theorem wK:isSubtype (.type "set") (.type "frozenset")=pure false:=by rw[isSubtype_type];kernel_rfl
section
variable {prog:Program} {w:World} {A:Around} {E:Value->Shared->Prop} {s:Shared}
theorem Ds(hT:s.TypeIs v "set")(h:Q true s):wpAny (model prog w) A (Builtin.Frozenset.isAnySet v) Q E s:=by
 exact wpAny_bind (wpAny_isInstance hT sub_set_self (wpAny_pure h))
theorem GV{id:String}{U:List Int}(aO:a≠b)(Ha:qh w s.heap a es)(Hb:qh w s.heap b eb)(hU:∀n∈zn es,n∈U)(cI:∀n∈zn eb,n∈U)(hz:U.length<=15)(h:∀h' es' d,Heap.SameBut a s.heap h'->qh w h' a es'->(∀z,z∈zn es'↔z∈zn es\/z∈zn eb)->Q () { s with heap:=h',drawn:=d }):wpAny (model prog w) A (Builtin.Frozenset.merge id a b) Q E s:=by
 refine xC Hb.1 λn t hb T=>?_;have fb:t.fits eb.toArray.size=true:=ae Kd T.wide.fits;refine wpAny_bind (wpAny_setEpoch_of hb rfl fb ?_);refine Yj aO Ha Hb hU cI hz (fun {Q' E'} s' e q=>?_) h;refine wpAny_bind (wpAny_setEpoch_of (s:=s') (e.trans hb) rfl fb ?_);refine ae (if_neg (by simp)) ?_;exact wpAny_pure q
noncomputable def Yk(h:Heap)(a:Addr)(es:List (Int × Value)):Prop:=A3
 (E3 λn t led=>h.get? a=some (jz es n t)/\zT t es.length led)
 (yI es)
 ((zn es).Nodup)
theorem Yk.find(H:Yk s.heap a es)(h:∀r:Option Nat,r.isSome=decide (k∈zn es)->Q r s):wpAny (model prog w) A (setFind a (.int k u) (hashInt k)) Q E s:=by
 obtain⟨n,t,led,ha,T⟩:=H.1;have' hm:es.length<scanBound:=by
  have:=T.3;have b:scanBound=4096:=rfl;exact Hr this (nW T.4).2 b
 refine wpAny_setFind_of (knd:=intKind prog w) (S:=λk=>decide (k∈zn es)) (n:=es.length) (intKind_is _ _ _ _) rfl ⟨_,es.toArray,n,t,ha,⟨rfl,rfl,rfl⟩,rfl,H.2.elems,λz=>?_,ae Kd hm,ae Kd T.wide.fits,Kd⟩ h;rw[decide_eq_true_iff];constructor
 ·intro q;refine zt (Kr.mp q) λe he hz=>?_;refine Jb (H.2 e he) λm t bR=>?_;obtain rfl:=bR;exact⟨_,he,aR hz (intKind_is _ _ _ _)⟩
 ·intro rA;refine zV rA λe he hz=>?_;refine Jb (H.2 e he) λm t bG=>?_;obtain rfl:=bG;refine Kr.mpr ⟨_,he,?_⟩;refine aB (Value.isInt_shape (show Value.isInt z (Value.int m t)=true from hz)) λu e2=>?_;injection e2
theorem Yk.quiet{l:List (Int × Value)}{Q:Unit->Shared->Prop}(hl:yI l){f:List (Int × Value)->Sem (List (Int × Value))}:∀e∈l,Builtin.Frozenset.quietEq e.2=pure true:=λe he=>by
 refine Jb (hl e he) λn t cA=>?_;obtain rfl:=cA;rfl
theorem Yk.subset{id:String}(Ha:Yk s.heap a es)(Hb:Yk s.heap b eb)(hz:es.length=eb.length)(h:Q (decide (∀z∈zn es,z∈zn eb)) s):wpAny (model prog w) A (Builtin.Frozenset.subsetOf id a b) Q E s:=by
 obtain⟨n,t,led,ha,T⟩:=Ha.1;obtain⟨m,u,Dt,hb,U⟩:=Hb.1;have fa:t.fits es.toArray.size=true:=ae Kd T.wide.fits;have fb:u.fits eb.toArray.size=true:=ae Kd U.wide.fits;refine wpAny_bind (wpAny_bind (wpAny_setEntries_of ha rfl fa (wpAny_pure ?_)));refine wpAny_bind (wpAny_bind (wpAny_setEntries_of hb rfl fb (wpAny_pure ?_)));refine ae (if_neg (by refine ae Kd ?_;refine ae Kd ?_;exact P5 hz)) ?_;refine wpAny_bind (wpAny_setEpoch_of ha rfl fa ?_);refine wpAny_bind ?_;refine wpAny_bind (wpAny_setEntries_of ha rfl fa ?_);refine wpAny_bind (wpAny_setEntries_of hb rfl fb ?_);refine wpAny_bind ?_;refine wpAny_forIn_list _ (λrest r s'=>r.1=none/\s'=s/\∀e∈rest,∃n t,e=(hashInt n,Value.int n t)) _ ?_ ?_ _ _ ⟨rfl,rfl,λe he=>?_⟩
 ·intro e rest r s' rB;refine Qe rB λhr eB bS=>?_;obtain rfl:=eB;refine Jb (bS e (.head _)) λn t dy=>?_;obtain rfl:=dy;have' q:Builtin.Frozenset.quietEq (Value.int n t)=pure true:=rfl;dsimp only;refine ae q ?_;refine wpAny_bind (wpAny_pure ?_);refine ae (if_neg Kn) ?_;exact wpAny_pure ⟨rfl,rfl,λx hx=>bS x (.tail _ hx)⟩
 ·rintro⟨r1,r2⟩ s' ml;refine Qe ml λhr eC ZZ=>?_;obtain rfl:=eC;simp only at hr;subst hr;refine wpAny_pure ?_;refine wpAny_bind ?_;refine wpAny_forIn_list _ (λrest r ru=>r.1=none/\ru=s'/\∃done,es=done++rest/\∀z∈zn done,z∈zn eb) _ ?_ ?_ _ _ ⟨rfl,rfl,[],by simp,λz hz=>by simp[zn]at hz⟩
  ·rintro e rest r ru ⟨hr,rfl,done,hl,hd⟩;have he:e∈es:=by refine ae hl ?_;simp
   refine Jb (Ha.2 e he) λk v iH=>?_;obtain rfl:=iH;dsimp only;refine wpAny_bind (wpAny_holding (Hb.find λr hr=>?_));by_cases q:k∈zn eb
   ·have' this:r.isNone=false:=by rw[decide_eq_true q]at hr;cases r <;> simp_all
    refine ae this ?_;refine ae (if_neg Kn) ?_;refine wpAny_bind (wpAny_bind (wpAny_setEpoch_of ha rfl fa ?_));refine ae (if_neg (by simp)) ?_;refine wpAny_pure (wpAny_pure ⟨rfl,rfl,done++[(hashInt k,Value.int k v)],by refine ae hl ?_;exact(List.append_cons ..),λz hz=>?_⟩);unfold zn at hz;rw[List.map_append,List.mem_append]at hz;rcases hz with hz | hz
    ·exact hd z hz
    ·simp[rh]at hz;refine ae hz ?_;exact q
   ·have' this:r.isNone=true:=by rw[decide_eq_false q]at hr;cases r <;> simp_all
    refine ae this ?_;refine ae (if_pos rfl) ?_;refine wpAny_pure ?_;refine wpAny_pure ?_;have' this:decide (∀z∈zn es,z∈zn eb)=false:=decide_eq_false λbS=>q (bS k (Kr.mpr ⟨_,he,rfl⟩));rw[this]at h;exact h
  ·rintro⟨r1,r2⟩ ru ⟨hr,rfl,done,hl,hd⟩;simp only at hr;subst hr;rw[List.append_nil]at hl;subst hl;have' this:decide (∀z∈zn es,z∈zn eb)=true:=decide_eq_true hd;rw[this]at h;exact wpAny_pure h
 ·rcases Ko.mp he with he | he
  ·exact Ha.2 e (by simpa using he)
  ·exact Hb.2 e (by simpa using he)
theorem Yk.Du(hu:A.units<cLine)(Ha:Yk s.heap a es)(Hb:Yk s.heap b eb)(aO:a≠b):EqAt A s (.ref a) (.ref b) (es.length == eb.length&&decide (∀z∈zn es,z∈zn eb)):=by
 refine EqAt.of_refs aO λprog w E Q h=>?_;obtain⟨n,t,led,ha,T⟩:=Ha.1;obtain⟨m,u,Dt,hb,U⟩:=Hb.1;have' fa:t.fits es.toArray.size=true:=ae Kd T.wide.fits;have' fb:u.fits eb.toArray.size=true:=ae Kd U.wide.fits;have ta:s.TypeIs (.ref a) "set":=⟨_,ha,rfl⟩;have tb:s.TypeIs (.ref b) "set":=⟨_,hb,rfl⟩;refine wpAny_richCompare_same_room (op:=.Eq) ta tb F.slot_set_eq (wpAny_call_entry F.slot_set_eq ta XS ?_ (F.args_set_eq_2 _ _)) hu
 wp_delta
 refine wpAny_bind (wpAny_of_eq (a:=(Value.ref a,Value.ref b)) (by rfl) ?_);dsimp only;refine wpAny_bind (Ds tb ?_);refine ae (if_neg Kn) ?_;refine wpAny_bind (wpAny_of_eq (a:=a) (by rfl) ?_);refine wpAny_bind (wpAny_of_eq (a:=b) (by rfl) ?_);refine wpAny_bind (wpAny_bind (wpAny_setEntries_of ha rfl fa (wpAny_pure ?_)));refine wpAny_bind (wpAny_bind (wpAny_setEntries_of hb rfl fb (wpAny_pure ?_)));refine ae Kd ?_;refine ae Kd ?_;refine wpAny_bind ?_;by_cases c:es.length=eb.length
 ·refine ae (if_neg (by simpa using c)) ?_;refine wpAny_bind ?_;refine wpAny_bind (wpAny_isInstance ta wK (wpAny_pure ?_));refine ae (if_neg Kn) ?_;refine Yk.subset Ha Hb c ?_;have' e:(es.length == eb.length)=true:=by simpa using c
  rw[e,Bool.true_and]at h;exact wpAny_pure ⟨_,rfl,(λx=>nomatch x),h⟩
 ·refine ae (if_pos (by simpa using c)) ?_;have' e:(es.length == eb.length)=false:=by simpa using c
  rw[e,Bool.false_and]at h;exact wpAny_pure (wpAny_pure ⟨_,rfl,(λx=>nomatch x),h⟩)
end
end
section
set_option genSizeOf false
set_option genInjectivity false
open PySem PySem.W PySem.Calls PyProof.Rows PySem.SeqAt
section
variable {B:Bs} {A:Around} {own:Bool} {env:Env} {vs:Vs} {S:St}
theorem Ok.uS(o:Ok B S X s)(h:S.has a (.set es t))(I:qm B es t):qh B.w s.heap a es:=by
 refine aB (o.set h) λn e=>?_;exact⟨⟨n,t,e,I.2⟩,I.1,I.3⟩
theorem qh.back(H:qh B.w h a es):∃t,qm B es t/\∃ob,h.get? a=some ob/\(jn.set es t).Fits ob:=by
 refine xC H.1 λn t e T=>?_;exact⟨t,⟨H.2,T,H.3⟩,_,e,n,rfl⟩
theorem xf{id:String}{U:List Int}(ha:S.get r a=some (.set es t))(hb:S.has b (.set eb tb))(aO:a≠b)(I:qm B es t)(Ib:qm B eb tb)(hU:∀n∈zn es,n∈U)(cI:∀n∈zn eb,n∈U)(hz:U.length<=15)(h:∀es' t',qm B es' t'->(∀z,z∈zn es'↔z∈zn es\/z∈zn eb)->Q () (S.put r a (.set es' t'))):V B A S (Builtin.Frozenset.updateFrom id a (.ref b)) Q:=λX s o=>by
 refine aB (o.set hb) λnb eb'=>?_;have' tyb:s.TypeIs (.ref b) "set":=⟨_,eb',rfl⟩;refine wpAny_bind (Ds tyb ?_);refine ae (if_pos rfl) ?_;refine wpAny_bind (wpAny_of_eq (a:=b) (by rfl) ?_);refine(GV aO (o.uS (St.az ha) I) (o.uS hb Ib) hU cI hz λh' es' d sb H hm=>?_);obtain⟨t',I',ob,e1,e2⟩:=H.back;exact⟨_,(o.put (c':=.set es' t') ha sb ⟨ob,e1,e2⟩ s.toks).drawn _ rfl rfl rfl,h es' t' I' hm⟩
theorem zcz{U:List Int}(hh:A.handled=none)(hx:S.has x (.set eb tb))(Ib:qm B eb tb)(hU:∀n∈zn eb,n∈U)(hz:U.length<=15)(h:∀a es t,S.no a->qm B es t->(∀z,z∈zn es↔z∈zn eb)->Q (.ref a) (S.put r a (.set es t))):V B A S (call (.type "set") ([]++[.ref x])) Q:=by
 refine XX (r:=r) hh λa A' h1 h2 aH=>?_;have aO:a≠x:=λe=>St.bu aH (e▸hx);have' nJ:(S.put r a (.set [] (zX B.w))).has x (.set eb tb):=by
  refine aB hx λr' q=>?_;refine⟨r',?_⟩;by_cases e:r'=r
  ·subst e;rewrite [St.bk];refine ae (zb _ _ (Ne.symm aO)) ?_;exact q
  ·exact ae (St.b8 _ _ e) q
 refine xf (U:=U) St.aY nJ aO ⟨λe he=>(nomatch he),gz B.w,L3⟩ Ib (λn hn=>by simp[zn]at hn) hU hz λes' t' I' hm=>⟨⟨es',t',St.aY⟩,?_⟩;refine ae St.cV ?_;exact h a es' t' aH I' λz=>by rw[hm];simp[zn]
theorem XY{U:List Int}(hx:S.has x (.set eb tb))(ha:S.get r a=some (.set es t))(aO:a≠x)(I:qm B es t)(Ib:qm B eb tb)(hU:∀n∈zn es,n∈U)(cI:∀n∈zn eb,n∈U)(hz:U.length<=15)(h:∀es' t',qm B es' t'->(∀z,z∈zn es'↔z∈zn es\/z∈zn eb)->Q .none (S.put r a (.set es' t'))):V B A S (call (.builtin "set.update") ([.ref a]++[.ref x])) Q :=
 wf (St.az ha) λA' h1 h2=>xf ha hx aO I Ib hU cI hz h
theorem Qt(ha:S.has a (.set es t))(I:qm B es t)(h:Q .none S):V B A S (call (.builtin "set.update") ([.ref a]++[.ref a])) Q :=
 wf ha λA' h1 h2=>λX s o=>by
  refine aB (o.set ha) λn e=>?_;have' ty:s.TypeIs (.ref a) "set":=⟨_,e,rfl⟩;have' fa:t.fits es.toArray.size=true:=ae Kd I.2.wide.fits;unfold Builtin.Frozenset.updateFrom;refine wpAny_bind (Ds ty ?_);refine ae (if_pos rfl) ?_;refine wpAny_bind (wpAny_of_eq (a:=a) (by rfl) ?_);refine wpAny_bind (wpAny_setEpoch_of e rfl fa ?_);unfold setMerge;refine ae (if_pos (if_pos rfl)) ?_;exact wpAny_pure ⟨S,o,h⟩
theorem zeb(h:∀a,S.no a->qm B [] (zX B.w)->Q (.ref a) (S.put r a (.set [] (zX B.w)))):V B A S (call (.type "set") ([]++[])) Q:=λX s o =>
 Qq ⟨_,o.new (r:=r) (c':=.set [] (zX B.w)) o.lt.1 o.lt.2 (λb ob q e=>Ke _ q) ⟨_,Kl _ rfl,0,rfl⟩ _ rfl rfl rfl,h _ o.lt.1 ⟨λe he=>(nomatch he),gz B.w,L3⟩⟩
/-! o7 -/
theorem EqAt.same:EqAt A s (.ref a) (.ref a) true:=λprog w E Q h=>by
 refine wpAny_holding ?_;refine ae (if_pos (if_pos rfl)) ?_;exact wpAny_bind (wpAny_rule (wpAny_pure h))
theorem gA{xs:List Value}{ns:List Int}(h:IntsAre xs ns){j:Nat}(hj:j<xs.length):∃t,xs[j] = .int (ns.getD j 0) t:=by
 refine aB (IntsAre.int_at h j xs[j] (Ka hj)) λt e=>?_;exact⟨t,e⟩
theorem Dv{ns ms:List Int}:((List.range (min ns.length ms.length)).all (λj=>ns.getD j 0 == ms.getD j 0)&&ns.length == ms.length)=decide (ns=ms):=by
 by_cases h:ns=ms
 ·subst h;simp
 ·refine ae (decide_eq_false h) ?_
  apply Bool.eq_false_iff.mpr
  intro q;rw[Bool.and_eq_true,List.all_eq_true,beq_iff_eq]at q;refine bE q λq1 q2=>?_;refine h (M2 q2 λj h1 h2=>?_);have' this:_:=q1 j (K8.mpr (P9 h1 q2));simpa[List.getD_eq_getElem?_getD,h1,h2] using this
theorem EqAt.n8{ns ms:List Int}(hu:A.units<cLine)(ha:s.heap.IsTuple a xs.toArray)(hb:s.heap.IsTuple b ys.toArray)(hx:IntsAre xs ns)(hy:IntsAre ys ms):EqAt A s (.ref a) (.ref b) (decide (ns=ms)):=by
 by_cases e:a=b
 ·subst e;refine xM ha λo e1 c1 n d1=>?_;refine xM hb λo2 e2 c2 m d2=>?_;rw[e1]at e2;obtain rfl:=Option.some.inj e2;rw[d1]at d2;injection d2 with d2 _;have' d3:xs=ys:=by simpa using d2
  subst d3;have' this:ns=ms:=aR hx.nums (ae hy.nums rfl);refine ae (decide_eq_true this) ?_;exact EqAt.same
 ·refine EqAt.of_refs e ?_;have' this:_:=RcAt.tuples (A:=A) (e:=λj=>ns.getD j 0 == ms.getD j 0) ha hb hu (λj h1 h2=>by
   refine aB (gA hx (j:=j) (by simpa using h1)) λt e1=>?_;refine aB (gA hy (j:=j) (by simpa using h2)) λu e2=>?_;have' e3:xs.toArray[j] = .int (ns.getD j 0) t:=by simpa using e1
   have' e4:ys.toArray[j] = .int (ms.getD j 0) u:=by simpa using e2
   refine ae e3 ?_;refine ae e4 ?_;exact EqAt.int_int _ _ _ _)
  rw[List.size_toArray,List.size_toArray,hx.length,hy.length]at this;rw[Dv]at this;exact this
theorem zec{ns ms:List Int}(hu:A.units<cLine)(ha:S.has a (.tup xs))(hb:S.has b (.tup ys))(hx:IntsAre xs ns)(hy:IntsAre ys ms)(h:Q (.bool (decide (ns≠ms))) S):V B A S (compareOp .NotEq (.ref a) (.ref b)) Q:=λX s o=>by
 have' ta:_:=o.tup ha;have' tb:_:=o.tup hb;have' this:_:=RcNeAt.tuples (A:=A) (s:=s) (e:=λj=>ns.getD j 0 == ms.getD j 0) ta tb hu (λj h1 h2=>by
  refine aB (gA hx (j:=j) (by simpa using h1)) λt e1=>?_;refine aB (gA hy (j:=j) (by simpa using h2)) λu e2=>?_;have' e3:xs.toArray[j] = .int (ns.getD j 0) t:=by simpa using e1
  have' e4:ys.toArray[j] = .int (ms.getD j 0) u:=by simpa using e2
  refine ae e3 ?_;refine ae e4 ?_;exact EqAt.int_int _ _ _ _)
 rw[List.size_toArray,List.size_toArray,hx.length,hy.length]at this;rw[Dv]at this;refine this _ _ _ _ ⟨S,o,?_⟩;refine ae (show(!decide (ns=ms))=decide (ns≠ms) by by_cases q:ns=ms <;> simp[q]) ?_;exact h
theorem Qu(hu:A.units<cLine)(ha:S.has a (.tup xs))(h:Q (.bool true) S):V B A S (compareOp .NotEq (.ref a) .none) Q:=λX s o =>
 RcNeAt.tuple_none (o.tup ha) hu _ _ _ _ ⟨S,o,h⟩
theorem XZ(hu:A.units<cLine)(ha:S.has a (.tup xs))(h:Q (.bool false) S):V B A S (compareOp .Eq (.ref a) (.str y t)) Q:=λX s o =>
 RcAt.tuple_str _ _ (o.tup ha) hu _ _ _ _ ⟨S,o,h⟩
theorem Qv(h:Q (.bool false) S):V B A S (compareOp .Eq .none (.str y t)) Q:=λX s o=>RcAt.none_str (A:=A) (s:=s) y t _ _ _ _ ⟨S,o,h⟩
theorem gU(hu:A.units<cLine)(ha:S.has a (.list xs))(hb:S.has b (.list []))(h:Q (.bool (!xs.isEmpty)) S):V B A S (compareOp .NotEq (.ref a) (.ref b)) Q:=λX s o=>by
 cases xs with
 | nil=>exact RcNeAt.lists (A:=A) (e:=λ_=>true) (o.list ha) (o.list hb) rfl hu (λj h1 h2=>absurd h1 (K4 _)) _ _ _ _ ⟨S,o,by simpa using h⟩
 | cons x r=>exact RcNeAt.lists_lengths (A:=A) (o.list ha) (o.list hb) rfl hu _ _ _ _ ⟨S,o,by simpa using h⟩
theorem Qw(hu:A.units<cLine)(ha:S.has a (.list xs))(hb:S.has b (.list []))(h:Q (.bool xs.isEmpty) S):V B A S (compareOp .Eq (.ref a) (.ref b)) Q:=λX s o=>by
 cases xs with
 | nil=>exact RcAt.lists (A:=A) (e:=λ_=>true) (o.list ha) (o.list hb) rfl hu (λj h1 h2=>absurd h1 (K4 _)) _ _ _ _ ⟨S,o,by simpa using h⟩
 | cons x r=>exact RcAt.lists_lengths (A:=A) (o.list ha) (o.list hb) rfl hu _ _ _ _ ⟨S,o,by simpa using h⟩
theorem Yl{a b:Addr}{xs ys:List Value}{nss mss:List (List Int)}(hu:A.units+20<cLine)(ha:S.has a (.list xs))(hb:S.has b (.list ys))(lz:xs.length=nss.length)(dQ:ys.length=mss.length)(hx:∀(j:Nat) v,xs[j]? = some v->∃c us,v = .ref c/\S.has c (.tup us)/\IntsAre us (nss.getD j []))(hy:∀(j:Nat) v,ys[j]? = some v->∃c us,v = .ref c/\S.has c (.tup us)/\IntsAre us (mss.getD j []))(h:Q (.bool (decide (nss≠mss))) S):V B A S (compareOp .NotEq (.ref a) (.ref b)) Q:=λX s o=>by
 by_cases e:xs.length=ys.length
 ·have:=RcNeAt.lists (A:=A) (s:=s) (e:=λj=>decide (nss.getD j []=mss.getD j [])) (o.list ha) (o.list hb) (by simpa using e) (CL hu) (λj h1 h2=>by
   have lA:j<xs.length:=by simpa using h1
   have eA:j<ys.length:=by simpa using h2
   refine jg (hx j _ (Ka lA)) λc us e1 c1 i1=>?_;refine jg (hy j _ (Ka eA)) λd ws e2 c2 i2=>?_;have' e3:xs.toArray[j] = .ref c:=by simpa using e1
   have' e4:ys.toArray[j] = .ref d:=by simpa using e2
   refine ae e3 ?_;refine ae e4 ?_;exact EqAt.n8 (by refine(?_:A.units+1<_);exact g0 hu) (o.tup c1) (o.tup c2) i1 i2)
  refine this _ _ _ _ ⟨S,o,?_⟩;refine ae Kd ?_;refine ae lz ?_;have' this:(!(List.range nss.length).all λj=>decide (nss.getD j []=mss.getD j []))=decide (nss≠mss):=by
   have hlen:nss.length=mss.length:=aR lz (ae e (ae dQ rfl));by_cases q:nss=mss
   ·subst q;simp
   ·have' this:decide (nss≠mss)=true:=decide_eq_true q;refine ae this ?_;rw[Bool.not_eq_true',Bool.eq_false_iff];intro al;rw[List.all_eq_true]at al;refine q (M2 hlen λj h1 h2=>?_);have' this:_:=al j (K8.mpr h1);simpa[List.getD_eq_getElem?_getD,h1,h2] using this
  exact ae this h
 ·have' this:decide (nss≠mss)=true:=decide_eq_true λq=>e (ae lz (ae dQ (ae q rfl)));rw[this]at h;exact RcNeAt.lists_lengths (A:=A) (o.list ha) (o.list hb) (by simpa using e) (CL hu) _ _ _ _ ⟨S,o,h⟩
theorem Ym(hu:A.units+20<cLine)(ha:S.has a (.list xs))(hb:S.has b (.list ys))(lz:xs.length=n)(dQ:ys.length=n)(hp:∀j,j<n->∃c d es ed t u,xs[j]? = some (.ref c)/\ys[j]? = some (.ref d)/\c≠d/\S.has c (.set es t)/\S.has d (.set ed u)/\qm B es t/\qm B ed u/\e j=(es.length == ed.length&&decide (∀z∈zn es,z∈zn ed)))(h:Q (.bool ((List.range n).all e)) S):V B A S (compareOp .Eq (.ref a) (.ref b)) Q:=λX s o=>by
 have' this:_:=RcAt.lists (A:=A) (s:=s) (e:=e) (o.list ha) (o.list hb) (by simp[lz,dQ]) (CL hu) (λj h1 h2=>by
  have' lA:j<n:=by simpa[lz] using h1
  obtain⟨c,d,es,ed,t,u,e1,e2,ne,c1,c2,I1,I2,ee⟩:=hp j lA;have' e3:xs.toArray[j] = .ref c:=by
   have' this:_:=(Kb.mp e1).2;simpa using this
  have' e4:ys.toArray[j] = .ref d:=by
   have' this:_:=(Kb.mp e2).2;simpa using this
  refine ae e3 ?_;refine ae e4 ?_;refine ae ee ?_;refine aB (o.set c1) λn1 g1=>?_;refine aB (o.set c2) λn2 g2=>?_;exact Yk.Du (by refine(?_:A.units+1<_);exact g0 hu) ⟨⟨n1,t,_,g1,I1.2⟩,I1.1,I1.3⟩ ⟨⟨n2,u,_,g2,I2.2⟩,I2.1,I2.3⟩ ne)
 rw[List.size_toArray,lz]at this;exact this _ _ _ _ ⟨S,o,h⟩
end
end
section
set_option genSizeOf false
set_option genInjectivity false
open PySem PySem.W PySem.Calls PyProof.Rows PySem.SeqAt
noncomputable def Yn(x:Str)(ns:List Int)(vs:List Value):Prop:=∃t r,vs = .str x t::r/\IntsAre r ns
noncomputable def Z5(x:Str)(ns:List Int):List Pt:=.inl x::ns.map .inr
noncomputable def jH(k:Mp)(b:Addr)(x:Str)(ns:List Int):Prop:=∃vs,k b=some (.tup vs)/\Yn x ns vs
theorem jH.mono(h:jH k b x ns)(l:k.le k'):jH k' b x ns:=by refine zt h λvs e n=>?_;exact⟨vs,l _ _ e,n⟩
theorem ZE(h:Z5 x ns=Z5 y ms):x=y/\ns=ms:=by
 unfold Z5 at h;injection h with h1 h2;injection h1 with h1;refine⟨h1,?_⟩;have' this:_:=congrArg (List.map λz:Pt=>match z with | .inl _=>0 | .inr n=>n) h2;simpa[Function.comp_def] using this
section
variable {B:Bs} {A:Around} {own:Bool} {env:Env} {vs:Vs} {S:St}
theorem Yn.items{x:Str}{ns:List Int}{vs:List Value}(h:Yn x ns vs):ItemsAre (zB B.prog B.w) (Z5 x ns) vs:=by
 obtain⟨t,r,rfl,hI⟩:=h;refine .cons (zkZ _ _ x t) ?_;induction hI with
 | nil=>exact .nil
 | cons n t _ ih=>exact .cons (zla _ _ n t) ih
theorem Ok.nd{X:Addr->Option Obj}{s:Shared}{b:Addr}{x:Str}{ns:List Int}(o:Ok B S X s)(h:jH S.k b x ns):qK B.prog B.w s.heap (Z5 x ns) b:=by
 refine zt h λvs e n=>?_;refine xM (o.tup (St.az (r:=.k) e)) λob e1 c1 m d1=>?_;exact⟨⟨ob,vs.toArray,m,e1,c1,d1,by simpa using n.items⟩,x,_,rfl⟩
theorem zaS:∀z∈(Z5 x ns).tail,∃n,z = .inr n:=λz hz=>by
 refine zV (Kr.mp (show z∈ns.map Sum.inr from hz)) λn ZZ bR=>?_;obtain rfl:=bR;exact⟨n,rfl⟩
noncomputable def GW(B:Bs)(k:Mp)(es:List (Int × Value)):Prop:=∀e∈es,∃b x ns,e=(tupleKeyHash (zB B.prog B.w) (Z5 x ns),Value.ref b)/\jH k b x ns
theorem GW.mono(h:GW B k es)(l:k.le k'):GW B k' es:=λe he=>by refine Zh (h e he) λb x ns q n=>?_;exact⟨b,x,ns,q,n.mono l⟩
theorem Qx(hu:A.units<cLine)(ha:S.get r a=some (.set es t))(N:GW B S.k es)(T:TB B es t)(hb:jH S.k b x ns)(hz:es.length<=14)(h:∀f es' t',TB B es' t'->GW B S.k es'->es'.length<=es.length+1->(∀e∈es,e∈es')->(∀e∈es',e∈es\/e.2 = .ref b)->(∃c,jH S.k c x ns/\Value.ref c∈es'.map (·.2))->Q f (S.put r a (.set es' t'))):V B A S (setAdd a (.ref b)) Q:=λX s o=>by
 refine aB (o.set (St.az ha)) λn e=>?_;have' TE:Yc B.prog B.w s.heap es:=λe he=>by
  refine Zn (N e he) λc y ms bo hc=>?_;obtain rfl:=bo;exact⟨c,_,rfl,o.nd hc⟩
 refine ZA hu e TE T (o.nd hb) hz (λtk hk=>?_) λh' es' n' t' tk a1 a2 a3 a4=>?_
 ·obtain⟨e2,uR,c,e3,nc⟩:=hk;refine Zn (N e2 uR) λc' y ms bG hc=>?_;obtain rfl:=bG;injection e3 with zz1;obtain rfl:=zz1;obtain⟨rfl,rfl⟩:=ZE ((o.nd hc).inj nc);have' this:_:=h false es t T N (Lq _) (λe he=>he) (λe he=>.inl he) ⟨_,hc,Kr.mpr ⟨_,uR,rfl⟩⟩;rw[St.cU ha]at this;exact⟨S,o.toks tk,this⟩
 ·refine⟨_,o.put (c':=.set es' t') ha a1 ⟨_,a2,n',rfl⟩ tk,h true es' t' a4 (λe he=>?_) ?_ (λe he=>?_) (λe he=>?_) ⟨b,hb,?_⟩⟩
  ·rcases Ko.mp (a3.mem_iff.mp he) with q | q
   ·exact N e q
   ·exact ae (Kf.mp q) ⟨b,x,ns,rfl,hb⟩
  ·exact ae a3.length_eq (ae Ki (Kz _))
  ·exact a3.mem_iff.mpr (Vj _ he)
  ·rcases Ko.mp (a3.mem_iff.mp he) with q | q
   ·exact .inl q
   ·exact ae (Kf.mp q) (.inr rfl)
  ·exact Kr.mpr ⟨_,a3.mem_iff.mpr (Vh _ (.head _)),rfl⟩
theorem GX{x:Addr}{xs:List Value}{r:Rg}{Q:Value->St->Prop}(hr:r≠.k)(hh:A.handled=none)(hu:A.units+40<cLine)(hx:S.has x (.list xs))(hN:∀v∈xs,∃b y ns,v = .ref b/\jH S.k b y ns)(hz:xs.length<=14)(h:∀a es t,S.no a->TB B es t->GW B S.k es->es.length<=xs.length->(∀v∈es.map (·.2),v∈xs)->(∀b y ns,Value.ref b∈xs->jH S.k b y ns->∃c,jH S.k c y ns/\Value.ref c∈es.map (·.2))->Q (.ref a) (S.put r a (.set es t))):V B A S (call (.type "set") ([]++[.ref x])) Q:=by
 refine XX (r:=r) hh λa A' h1 h2 aH=>?_;have' aO:x≠a:=λe=>St.bu aH (e▸hx);have nJ:∀es t,(S.put r a (.set es t)).has x (.list xs):=λes t=>by
  refine aB hx λr' q=>?_;refine⟨r',?_⟩;by_cases e:r'=r
  ·subst e;rewrite [St.bk];refine ae (zb _ _ aO) ?_;exact q
  ·exact ae (St.b8 _ _ e) q
 have hk:∀c,(S.put r a c).k=S.k:=λc=>by cases r <;> first | rfl | exact absurd rfl hr
 refine xo (zf B x xs) (c:=.list xs) (λi S'=>∃es t,S'=S.put r a (.set es t)/\TB B es t/\GW B S.k es/\es.length<=i/\(∀v∈es.map (·.2),v∈xs)/\(∀b y ns,Value.ref b∈xs.take i->jH S.k b y ns->∃c,jH S.k c y ns/\Value.ref c∈es.map (·.2)))
  h1 rfl (nJ _ _) (by simp[jn.ty]) (λi S' zp=>by refine j8 zp λes t e ZZ=>?_;exact e▸nJ es t) (λi v S' KS h3 h4 aC hp eW=>?_) ⟨[],zX B.w,rfl,gz B.w,λe he=>(nomatch he),Kz _,λv hv=>by simp at hv,λb y ns hb=>by simp at hb⟩ (λS' eW=>?_)
 ·refine Zm eW λes t cA T N hl bV mr=>?_;obtain rfl:=cA;have Bw:xs[i]? = some v:=hp;refine Zn (hN v (Kx Bw)) λb y ns cj hb=>?_;obtain rfl:=cj;have' aA:i<xs.length:=(Kb.mp Bw).1;refine Qx (S:=S.put r a (.set es t)) (Ra hu h4 h2) St.aY (by rw[hk];exact N) T (by rw[hk];exact hb) (Rb hl aA hz) λf es' t' T' N' nY ix hs2 lP=>?_;rw[hk]at N' lP;refine⟨es',t',St.cV,T',N',by exact Rc nY hl,λv hv=>?_,λb' y' bJ KV oW=>?_⟩
  ·refine zV (Kr.mp hv) λe he eB=>?_;obtain rfl:=eB;rcases hs2 e he with q | q
   ·exact bV _ (Kr.mpr ⟨e,q,rfl⟩)
   ·exact ae q (Kx Bw)
  ·rw[List.take_add_one,Bw,List.mem_append]at KV;rcases KV with q | q
   ·refine zt (mr b' y' bJ q oW) λc c1 c2=>?_;refine zt (Kr.mp c2) λe he e2=>?_;exact⟨c,c1,Kr.mpr ⟨e,ix e he,e2⟩⟩
   ·simp at q;subst q;refine zt hb λIP e1 n1=>?_;refine zt oW λvs2 e2 n2=>?_;rw[e1]at e2;injection e2 with zz1;injection zz1 with zz2;obtain rfl:=zz2;have:=(n1.items (B:=B)).inj n2.items;obtain⟨rfl,rfl⟩:=ZE this;exact lP
 ·refine Zm eW λes t dy T N hl bV mr=>?_;obtain rfl:=dy;refine⟨⟨es,t,St.aY⟩,h a es t aH T N hl bV λb y ns hb=>mr b y ns ?_⟩;have' e:(zf B x xs).n=xs.length:=rfl;exact ae e (ae Mc hb)
theorem Yo(hh:A.handled=none)(ha:S.has a (.set es t))(T:TB B es t)(N:GW B S.k es)(hz:es.length<=60)(h:∀c out,S.no c->out.Perm (es.map (·.2))->Q (.ref c) (S.put r c (.list out))):V B A S (call (.builtin "sorted") ([]++[.ref a])) Q :=
 wc hh ha T (λX s o v hv=>by
  refine zV (Kr.mp hv) λe he iI=>?_;obtain rfl:=iI;refine Zn (N e he) λb x ns eC hb=>?_;obtain rfl:=eC;exact⟨_,b,rfl,o.nd hb,zaS⟩) hz h
end
end
section
set_option genSizeOf false
set_option genInjectivity false
open PySem PySem.W PySem.Calls PyProof.Rows PySem.SeqAt
noncomputable abbrev NK:=Str × List Int
noncomputable abbrev jV(z:NK):List Pt:=Z5 z.1 z.2
theorem Yp(h:jV a=jV b):a=b:=by
 refine bE (ZE h) λe1 e2=>?_;exact Prod.ext e1 e2
noncomputable def wL(z:NK × Addr × Value):List Pt × Addr × Value:=(jV z.1,z.2)
noncomputable def j2(B:Bs)(k:Mp)(es:List DictEntry)(xs:List (NK × Addr × Value)):Prop:=A3
 (es=xs.map λz=>entryOfKey (tupleKind (zB B.prog B.w)) (wL z))
 (∀z∈xs,jH k z.2.1 z.1.1 z.1.2)
 ((xs.map (·.1)).Nodup)
noncomputable def j6(xs:List (NK × Addr × Value))(key:NK):Option Value:=(xs.find? λz=>decide (z.1=key)).map (·.2.2)
theorem j2.mono(h:j2 B k es xs)(l:k.le k'):j2 B k' es xs:=⟨h.1,λz hz=>(h.2 z hz).mono l,h.3⟩
theorem j2.nil(B:Bs)(k:Mp):j2 B k [] []:=⟨rfl,λz hz=>(nomatch hz),L3⟩
theorem Xk(h:j6 xs key=some v):∃b,(key,b,v)∈xs:=by
 unfold j6 at h;cases e:xs.find? λz=>decide (z.1=key) with
 | none=>rw[e]at h;injection h
 | some z =>
  rw[e]at h;obtain rfl:=Option.some.inj h;have' h1:_:=List.mem_of_find?_eq_some e;have' h2:_:=List.find?_some e;have' h3:z.1=key:=by simpa using h2
  exact⟨z.2.1,h3▸h1⟩
theorem zaT(h:j6 xs key=none):∀z∈xs,z.1≠key:=by
 unfold j6 at h;intro z hz e;have' this:xs.find? (λz=>decide (z.1=key))=none:=by
  cases q:xs.find? λz=>decide (z.1=key) with
  | none=>rfl
  | some z=>rw[q]at h;injection h
 have' this:_:=List.find?_eq_none.mp this z hz;simp[e]at this
theorem Yq{xs:List (NK × Addr × Value)}(hn:(xs.map (·.1)).Nodup){key:NK}{b:Addr}{v:Value}(h:(key,b,v)∈xs):j6 xs key=some v:=by
 induction xs with
 | nil=>cases h
 | cons z r ih =>
  rw[List.map_cons,List.nodup_cons]at hn;unfold j6;refine ae List.find?_cons ?_;rcases Kw.mp h with e | h
  ·subst e;simp
  ·have' this:z.1≠key:=λe=>hn.1 (e▸Kr.mpr ⟨_,h,rfl⟩);refine ae (decide_eq_false this) ?_;exact ih hn.2 h
section
variable {B:Bs} {A:Around} {own:Bool} {env:Env} {vs:Vs} {S:St}
theorem qD(xs:List (NK × Addr × Value))(key:NK):((atKey (xs.map wL) (jV key)).map (·.2))=j6 xs key:=by
 unfold atKey j6;refine ae List.find?_map ?_;have' this:((λx:List Pt × Addr × Value=>decide (x.1=jV key)) ∘ wL)=λz=>decide (z.1=key):=by
  funext z
  refine(?_:decide (jV z.1=jV key)=decide (z.1=key));by_cases e:z.1=key
  ·refine ae e ?_;simp only[List.length_append,List.length_singleton]
  ·exact ae (decide_eq_false e) (ae (decide_eq_false λh=>e (Yp h)) rfl)
 refine ae this ?_;cases xs.find? λz=>decide (z.1=key) <;> rfl
theorem Ok.fT{X:Addr->Option Obj}{s:Shared}{d:Addr}{es:List DictEntry}{xs:List (NK × Addr × Value)}(o:Ok B S X s)(h:S.has d (.dict es))(D:j2 B S.k es xs):s.heap.DictOfH (tupleKind (zB B.prog B.w)) d (xs.map wL):=by
 refine aB (o.dict h) λn e=>?_;refine⟨_,es.toArray,n,e,⟨rfl,rfl,rfl⟩,rfl,?_,λx hx=>?_,?_⟩
 ·exact ae Vp D.1
 ·refine zV (Kr.mp hx) λz hz bR=>?_;obtain rfl:=bR;exact(o.nd (D.2 z hz)).1
 ·refine ae Vp ?_;have' e1:((λx:List Pt × Addr × Value=>x.1) ∘ wL)=jV ∘ λz:NK × Addr × Value=>z.1:=rfl;refine ae e1 ?_;refine aR Vp ?_;exact D.3.map _ λa b eM e=>eM (Yp e)
theorem zkg(hu:A.units+20<cLine)(h:S.has d (.dict es))(D:j2 B S.k es xs)(hb:jH S.k b x ns)(hq:Q (.bool (j6 xs (x,ns)).isSome) S):V B A S (compareOp .In (.ref b) (.ref d)) Q:=λX s o=>by
 refine wpAny_in_heap (knd:=tupleKind (zB B.prog B.w)) (k:=jV (x,ns)) (by refine(?_:A.units+1<_);exact g0 hu) (o.nd hb).1 (o.cH h) (o.fT h D) ⟨S,o.toks _,?_⟩;have' this:_:=congrArg Option.isSome (qD xs (x,ns));rw[Option.isSome_map]at this;exact ae this hq
theorem zed(hu:A.units+20<cLine)(h:S.has d (.dict es))(D:j2 B S.k es xs)(hb:jH S.k b x ns)(hv:j6 xs (x,ns)=some v)(hq:Q v S)(hs:subscripted slice false (.ref d) (.ref b)=operate [.ref d,.ref b] (getItem (.ref d) (.ref b)):=by with_unfolding_all rfl):V B A S (subscriptTail value slice (.ref d) (.ref b)) Q:=λX s o=>by
 have e:=qD xs (x,ns);rw[hv]at e;cases q:atKey (xs.map wL) (jV (x,ns)) with
 | none=>rw[q]at e;injection e
 | some p =>
  rw[q]at e;obtain rfl:=Option.some.inj e;exact tail_any (o.fT h D).typeIs slot_dict_getitem.lookup (wpAny_getItem_heap (knd:=tupleKind (zB B.prog B.w)) (by refine(?_:A.units+1<_);exact g0 hu) (o.nd hb).1 (o.fT h D) q ⟨S,o.toks _,hq⟩) hs
theorem KW(hk:∀z∈xs,jH k z.2.1 z.1.1 z.1.2)(nd:(xs.map (·.1)).Nodup)(hb:jH k b x ns)(hn:j6 xs (x,ns)=none)(he:es'=(storedH (xs.map wL) (jV (x,ns)) b v).map (entryOfKey (tupleKind (zB B.prog B.w)))):j2 B k es' (xs++[((x,ns),b,v)]):=by
 have' e1:atKey (xs.map wL) (jV (x,ns))=none:=by
  have:=qD xs (x,ns);rw[hn]at this;cases q:atKey (xs.map wL) (jV (x,ns)) with
  | none=>rfl
  | some p=>rw[q]at this;injection this
 rw[storedH_new e1]at he;refine⟨?_,λz hz=>?_,?_⟩
 ·exact ae he (ae K2 (ae K2 (ae Vp rfl)))
 ·rcases Ko.mp hz with q | q
  ·exact hk z q
  ·exact ae (Kf.mp q) hb
 ·refine ae K2 ?_;rw[List.nodup_append];refine⟨nd,(Ll _ _),λa ha c hc e=>?_⟩;simp at hc;refine zt (Kr.mp ha) λz hz e2=>?_;exact zaT hn z hz (e2.trans (e.trans hc))
theorem zef{h:Heap}{d:Addr}{o8:List (List Pt × Addr × Value)}(x:h.DictOfH (tupleKind (zB B.prog B.w)) d o8):∃es',es'=o8.map (entryOfKey (tupleKind (zB B.prog B.w)))/\∃ob,h.get? d=some ob/\(jn.dict es').Fits ob:=by
 refine yw x λo es ep e iu hd he ZZ ZZ=>?_;obtain⟨h1,h2,h3⟩:=iu;obtain⟨c,dd,dt,sl⟩:=o;dsimp only at h1 h2 h3 hd;subst h1 h2 h3 hd;exact⟨es.toList,he,_,e,ep,by simp⟩
theorem zeg(hu:A.units+20<cLine)(hr:S.get r d=some (.dict es))(D:j2 B S.k es xs)(hb:jH S.k b x ns)(hn:j6 xs (x,ns)=none)(hz:xs.length<=1000)(hq:∀es',j2 B S.k es' (xs++[((x,ns),b,v)])->Q () (S.put r d (.dict es'))):V B A S (setItem (.ref d) (.ref b) v) Q:=λX s o=>by
 refine wpAny_setItem_heap (knd:=tupleKind (zB B.prog B.w)) (k:=jV (x,ns)) (by refine(?_:A.units+1<_);exact g0 hu) (o.nd hb).1 (o.fT (St.az hr) D) (λh' hm hs=>?_) (by rewrite [List.length_map];refine ae sizeLine_eq ?_;exact zS hz rfl);refine zt (zef hm) λes' e1 e2=>?_;exact⟨_,o.put (c':=.dict es') hr hs e2 _,hq es' (KW D.2 D.3 hb hn e1)⟩
theorem yv{x:Str}{ns:List Int}(hu:A.units+20<cLine)(hr:S.get r d=some (.dict es))(D:j2 B S.k es xs)(hb:jH S.k b x ns)(hz:xs.length<=1000)(h1:∀u,j6 xs (x,ns)=some u->Q u S)(h2:j6 xs (x,ns)=none->∀es',j2 B S.k es' (xs++[((x,ns),b,v)])->Q v (S.put r d (.dict es'))):V B A S (call (.builtin "dict.setdefault") ([.ref d]++[.ref b,v])) Q:=λX s o=>by
 have hm:=o.fT (St.az hr) D;have hT:=hm.typeIs;refine wpAny_call_entry PySem.F.slot_dict_setdefault hT PySem.F.entry_dict_setdefault ?_ (PySem.F.args_dict_setdefault_3 _ _ _);refine wpAny_bind ?_;refine wpAny_bind (wpAny_notOrdered_dict hT ?_);refine(?_:wpAny _ _ (pure (d,Value.ref b,some v)) _ _ s);refine wpAny_pure ?_;refine(?_:wpAny _ _ (if (d == sysModules)=true then _ else(dictSetDefault d (.ref b) v >>= _)) _ _ s);refine ae (if_neg (by refine ae (o.cH (St.az hr)) ?_;exact Kn)) ?_;refine wpAny_bind ?_;refine yw (id hm) λoo ees ep ho hc hd he his hn=>?_;have room:(tupleKind (zB B.prog B.w)).room A.in1:=by refine(?_:A.units+1<_);exact g0 hu
 refine wpAny_holding ?_;refine wpAny_bind ((tupleKind (zB B.prog B.w)).pyHash (k:=jV (x,ns)) room (o.nd hb).1 ?_);refine wpAny_bind (wpAny_dictFind_heap (knd:=tupleKind (zB B.prog B.w)) (s:={ s with toks:=_ }) room (o.nd hb).1 ho hd he his hn ?_ ?_)
 ·intro aH;have e0:j6 xs (x,ns)=none:=by rewrite [<-qD];refine ae (atKey_none_of_get aH) ?_;rfl
  have' dS:_:=not_mem_keys_of_get aH;refine wpAny_bind (wpAny_rule ?_);refine wpAny_bind (wpAny_updateDictKeys (hz:=by have' e:_:=size_of_entries he;rw[List.length_map]at e;refine ae sizeLine_eq ?_;exact z9 e hz rfl) (hf:=by simp) (s:={ s with toks:=_ }) ho hd ?_);refine aB (o.dict (St.az hr)) λon KX=>?_;rw[KX]at ho;cases (ho);cases (hd);have' sb:_:=Heap.SameBut.update s.heap d (Obj.mapDictKeys λes=>es.push ⟨(tupleKind (zB B.prog B.w)).hash (jV (x,ns)),Value.ref b,v⟩);have' lg:_:=Le (Obj.mapDictKeys λes=>es.push ⟨(tupleKind (zB B.prog B.w)).hash (jV (x,ns)),Value.ref b,v⟩) KX rfl;have' N:_:=KW (B:=B) (es':=es++[⟨(tupleKind (zB B.prog B.w)).hash (jV (x,ns)),Value.ref b,v⟩]) D.2 D.3 hb e0 (v:=v) (by
   rewrite [storedH_new (atKey_none_of_get aH)];refine ae K2 ?_;refine aR he ?_;rfl)
  refine wpAny_pure (wpAny_pure ⟨_,rfl,_,o.put (c':=.dict (es++[⟨(tupleKind (zB B.prog B.w)).hash (jV (x,ns)),Value.ref b,v⟩])) hr sb ⟨_,lg,ep+1,?_⟩ _,h2 e0 _ N⟩);unfold Obj.mapDictKeys;simp
 ·intro j p hj;have' e0:j6 xs (x,ns)=some p.2:=by rewrite [<-qD];refine ae (atKey_of_get hn hj) ?_;rfl
  refine wpAny_bind (wpAny_dictEntries (s:={ s with toks:=_ }) ho hd ?_);refine ae (entry_at he j) ?_;refine ae hj ?_;refine wpAny_bind (wpAny_rule (wpAny_pure ?_));exact wpAny_pure ⟨_,rfl,S,o.toks _,h1 _ e0⟩
end
end
section
set_option genSizeOf false
set_option genInjectivity false
open PySem PySem.W PySem.Calls PyProof.Rows
example:hd.heap_1_39=hd.heap_1_39/\PySem.Challenge.rw_sa0035_01=PySem.Challenge.rw_sa0035_01:=by k_fill;exact⟨rfl,rfl⟩
theorem yY(P:Params):qe (hd.heap_1_39 P) 45=true:=by kernel_rfl
theorem xH(P:Params):jw (hd.heap_1_39 P) 45 "of_node"=true:=by kernel_rfl
theorem xI(P:Params):takerIn (hd.heap_1_39 P) 45 "of_node"=some none:=by kernel_rfl
theorem xU(P:Params):jw (hd.heap_1_39 P) 45 "joined"=true:=by kernel_rfl
theorem xV(P:Params):takerIn (hd.heap_1_39 P) 45 "joined"=some none:=by kernel_rfl
theorem xJ(P:Params):findIn (hd.heap_1_39 P) (.ref 45) "of_node"=some (some (.ref 35)):=by kernel_rfl
theorem xK(P:Params):typeIn (hd.heap_1_39 P) (.ref 35)=some (.type "function"):=by kernel_rfl
theorem xW(P:Params):findIn (hd.heap_1_39 P) (.ref 45) "joined"=some (some (.ref 42)):=by kernel_rfl
theorem xX(P:Params):typeIn (hd.heap_1_39 P) (.ref 42)=some (.type "function"):=by kernel_rfl
theorem jm(P:Params):qe (hd.heap_1_39 P) 109=true:=by kernel_rfl
theorem Yr(P:Params):jw (hd.heap_1_39 P) 109 "heap"=true:=by kernel_rfl
theorem Ys(P:Params):takerIn (hd.heap_1_39 P) 109 "heap"=some none:=by kernel_rfl
theorem wg(P:Params):jw (hd.heap_1_39 P) 109 "analysis"=true:=by kernel_rfl
theorem wh(P:Params):takerIn (hd.heap_1_39 P) 109 "analysis"=some none:=by kernel_rfl
theorem ZF(P:Params):jw (hd.heap_1_39 P) 109 "values"=true:=by kernel_rfl
theorem ZG(P:Params):takerIn (hd.heap_1_39 P) 109 "values"=some none:=by kernel_rfl
theorem Yt(P:Params):takerIn (hd.heap_1_39 P) 109 "told"=some none:=by kernel_rfl
theorem Ji(P:Params):jw (hd.heap_1_39 P) 109 "backs"=true:=by kernel_rfl
theorem Jj(P:Params):takerIn (hd.heap_1_39 P) 109 "backs"=some none:=by kernel_rfl
theorem wM(P:Params):findIn (hd.heap_1_39 P) (.ref 109) "renewed"=some (some (.ref 70)):=by kernel_rfl
theorem wN(P:Params):typeIn (hd.heap_1_39 P) (.ref 70)=some (.type "function"):=by kernel_rfl
theorem Jk(P:Params):findIn (hd.heap_1_39 P) (.ref 109) "value"=some (some (.ref 77)):=by kernel_rfl
theorem Jl(P:Params):typeIn (hd.heap_1_39 P) (.ref 77)=some (.type "function"):=by kernel_rfl
theorem Jm(P:Params):findIn (hd.heap_1_39 P) (.ref 109) "begun"=some (some (.ref 84)):=by kernel_rfl
theorem Jn(P:Params):typeIn (hd.heap_1_39 P) (.ref 84)=some (.type "function"):=by kernel_rfl
theorem wi(P:Params):findIn (hd.heap_1_39 P) (.ref 109) "reckoned"=some (some (.ref 89)):=by kernel_rfl
theorem wj(P:Params):typeIn (hd.heap_1_39 P) (.ref 89)=some (.type "function"):=by kernel_rfl
theorem ZH(P:Params):findIn (hd.heap_1_39 P) (.ref 109) "settle"=some (some (.ref 94)):=by kernel_rfl
theorem ZI(P:Params):typeIn (hd.heap_1_39 P) (.ref 94)=some (.type "function"):=by kernel_rfl
theorem wO(P:Params):findIn (hd.heap_1_39 P) (.ref 109) "clashes"=some (some (.ref 99)):=by kernel_rfl
theorem wP(P:Params):typeIn (hd.heap_1_39 P) (.ref 99)=some (.type "function"):=by kernel_rfl
theorem yk(P:Params):qe (hd.heap_1_39 P) 266=true:=by kernel_rfl
theorem Qy(P:Params):jw (hd.heap_1_39 P) 266 "nodes"=true:=by kernel_rfl
theorem Qz(P:Params):takerIn (hd.heap_1_39 P) 266 "nodes"=some none:=by kernel_rfl
theorem Jo(P:Params):jw (hd.heap_1_39 P) 266 "numbers"=true:=by kernel_rfl
theorem Jp(P:Params):takerIn (hd.heap_1_39 P) 266 "numbers"=some none:=by kernel_rfl
theorem Jq(P:Params):jw (hd.heap_1_39 P) 266 "weights"=true:=by kernel_rfl
theorem Jr(P:Params):takerIn (hd.heap_1_39 P) 266 "weights"=some none:=by kernel_rfl
theorem Yu(P:Params):jw (hd.heap_1_39 P) 266 "depths"=true:=by kernel_rfl
theorem Yv(P:Params):takerIn (hd.heap_1_39 P) 266 "depths"=some none:=by kernel_rfl
theorem X0(P:Params):findIn (hd.heap_1_39 P) (.ref 266) "size"=some (some (.ref 185)):=by kernel_rfl
theorem X1(P:Params):typeIn (hd.heap_1_39 P) (.ref 185)=some (.type "function"):=by kernel_rfl
theorem X2(P:Params):findIn (hd.heap_1_39 P) (.ref 266) "take"=some (some (.ref 190)):=by kernel_rfl
theorem X3(P:Params):typeIn (hd.heap_1_39 P) (.ref 190)=some (.type "function"):=by kernel_rfl
theorem Js(P:Params):findIn (hd.heap_1_39 P) (.ref 266) "require"=some (some (.ref 197)):=by kernel_rfl
theorem Jt(P:Params):typeIn (hd.heap_1_39 P) (.ref 197)=some (.type "function"):=by kernel_rfl
theorem zaU(P:Params):findIn (hd.heap_1_39 P) (.ref 266) "op"=some (some (.ref 223)):=by kernel_rfl
theorem zaV(P:Params):typeIn (hd.heap_1_39 P) (.ref 223)=some (.type "function"):=by kernel_rfl
theorem X4(P:Params):findIn (hd.heap_1_39 P) (.ref 266) "kids"=some (some (.ref 230)):=by kernel_rfl
theorem X5(P:Params):typeIn (hd.heap_1_39 P) (.ref 230)=some (.type "function"):=by kernel_rfl
theorem jI(P:Params):qe (hd.heap_1_39 P) 348=true:=by kernel_rfl
theorem Ju(P:Params):jw (hd.heap_1_39 P) 348 "above"=true:=by kernel_rfl
theorem Jv(P:Params):takerIn (hd.heap_1_39 P) 348 "above"=some none:=by kernel_rfl
theorem Yw(P:Params):jw (hd.heap_1_39 P) 348 "lots"=true:=by kernel_rfl
theorem Yx(P:Params):takerIn (hd.heap_1_39 P) 348 "lots"=some none:=by kernel_rfl
theorem ZJ(P:Params):jw (hd.heap_1_39 P) 348 "merged"=true:=by kernel_rfl
theorem ZK(P:Params):takerIn (hd.heap_1_39 P) 348 "merged"=some none:=by kernel_rfl
theorem Yy(P:Params):findIn (hd.heap_1_39 P) (.ref 348) "make"=some (some (.ref 291)):=by kernel_rfl
theorem Yz(P:Params):typeIn (hd.heap_1_39 P) (.ref 291)=some (.type "function"):=by kernel_rfl
theorem YA(P:Params):findIn (hd.heap_1_39 P) (.ref 348) "size"=some (some (.ref 298)):=by kernel_rfl
theorem YB(P:Params):typeIn (hd.heap_1_39 P) (.ref 298)=some (.type "function"):=by kernel_rfl
theorem YC(P:Params):findIn (hd.heap_1_39 P) (.ref 348) "find"=some (some (.ref 305)):=by kernel_rfl
theorem YD(P:Params):typeIn (hd.heap_1_39 P) (.ref 305)=some (.type "function"):=by kernel_rfl
theorem Jw(P:Params):findIn (hd.heap_1_39 P) (.ref 348) "merge"=some (some (.ref 312)):=by kernel_rfl
theorem Jx(P:Params):typeIn (hd.heap_1_39 P) (.ref 312)=some (.type "function"):=by kernel_rfl
theorem wQ(P:Params):findIn (hd.heap_1_39 P) (.ref 348) "members"=some (some (.ref 319)):=by kernel_rfl
theorem wR(P:Params):typeIn (hd.heap_1_39 P) (.ref 319)=some (.type "function"):=by kernel_rfl
theorem wS(P:Params):findIn (hd.heap_1_39 P) (.ref 348) "classes"=some (some (.ref 324)):=by kernel_rfl
theorem wT(P:Params):typeIn (hd.heap_1_39 P) (.ref 324)=some (.type "function"):=by kernel_rfl
theorem zM(P:Params):qe (hd.heap_1_39 P) 478=true:=by kernel_rfl
theorem X6(P:Params):jw (hd.heap_1_39 P) 478 "bank"=true:=by kernel_rfl
theorem X7(P:Params):takerIn (hd.heap_1_39 P) 478 "bank"=some none:=by kernel_rfl
theorem YE(P:Params):jw (hd.heap_1_39 P) 478 "unions"=true:=by kernel_rfl
theorem YF(P:Params):takerIn (hd.heap_1_39 P) 478 "unions"=some none:=by kernel_rfl
theorem QA(P:Params):jw (hd.heap_1_39 P) 478 "edges"=true:=by kernel_rfl
theorem QB(P:Params):takerIn (hd.heap_1_39 P) 478 "edges"=some none:=by kernel_rfl
theorem YG(P:Params):jw (hd.heap_1_39 P) 478 "forest"=true:=by kernel_rfl
theorem YH(P:Params):takerIn (hd.heap_1_39 P) 478 "forest"=some none:=by kernel_rfl
theorem QC(P:Params):jw (hd.heap_1_39 P) 478 "known"=true:=by kernel_rfl
theorem QD(P:Params):takerIn (hd.heap_1_39 P) 478 "known"=some none:=by kernel_rfl
theorem QE(P:Params):jw (hd.heap_1_39 P) 478 "above"=true:=by kernel_rfl
theorem QF(P:Params):takerIn (hd.heap_1_39 P) 478 "above"=some none:=by kernel_rfl
theorem Jy(P:Params):jw (hd.heap_1_39 P) 478 "waiting"=true:=by kernel_rfl
theorem Jz(P:Params):takerIn (hd.heap_1_39 P) 478 "waiting"=some none:=by kernel_rfl
theorem QG(P:Params):jw (hd.heap_1_39 P) 478 "backs"=true:=by kernel_rfl
theorem QH(P:Params):takerIn (hd.heap_1_39 P) 478 "backs"=some none:=by kernel_rfl
theorem X8(P:Params):findIn (hd.heap_1_39 P) (.ref 478) "size"=some (some (.ref 373)):=by kernel_rfl
theorem X9(P:Params):typeIn (hd.heap_1_39 P) (.ref 373)=some (.type "function"):=by kernel_rfl
theorem Ga(P:Params):findIn (hd.heap_1_39 P) (.ref 478) "node"=some (some (.ref 378)):=by kernel_rfl
theorem Gb(P:Params):typeIn (hd.heap_1_39 P) (.ref 378)=some (.type "function"):=by kernel_rfl
theorem GY(P:Params):findIn (hd.heap_1_39 P) (.ref 478) "add"=some (some (.ref 383)):=by kernel_rfl
theorem zld(P:Params):keepIn (hd.heap_1_39 P) (.ref 383)=true:=by kernel_rfl
theorem GZ(P:Params):typeIn (hd.heap_1_39 P) (.ref 383)=some (.type "function"):=by kernel_rfl
theorem G0(P:Params):findIn (hd.heap_1_39 P) (.ref 478) "put"=some (some (.ref 388)):=by kernel_rfl
theorem G1(P:Params):typeIn (hd.heap_1_39 P) (.ref 388)=some (.type "function"):=by kernel_rfl
theorem JA(P:Params):findIn (hd.heap_1_39 P) (.ref 478) "look_at"=some (some (.ref 395)):=by kernel_rfl
theorem JB(P:Params):typeIn (hd.heap_1_39 P) (.ref 395)=some (.type "function"):=by kernel_rfl
theorem Gc(P:Params):findIn (hd.heap_1_39 P) (.ref 478) "find"=some (some (.ref 402)):=by kernel_rfl
theorem Gd(P:Params):typeIn (hd.heap_1_39 P) (.ref 402)=some (.type "function"):=by kernel_rfl
theorem QI(P:Params):findIn (hd.heap_1_39 P) (.ref 478) "merge"=some (some (.ref 416)):=by kernel_rfl
theorem QJ(P:Params):typeIn (hd.heap_1_39 P) (.ref 416)=some (.type "function"):=by kernel_rfl
theorem Ge(P:Params):findIn (hd.heap_1_39 P) (.ref 478) "join"=some (some (.ref 423)):=by kernel_rfl
theorem Gf(P:Params):typeIn (hd.heap_1_39 P) (.ref 423)=some (.type "function"):=by kernel_rfl
theorem YI(P:Params):findIn (hd.heap_1_39 P) (.ref 478) "settle"=some (some (.ref 430)):=by kernel_rfl
theorem YJ(P:Params):typeIn (hd.heap_1_39 P) (.ref 430)=some (.type "function"):=by kernel_rfl
theorem JC(P:Params):findIn (hd.heap_1_39 P) (.ref 478) "classes"=some (some (.ref 444)):=by kernel_rfl
theorem JD(P:Params):typeIn (hd.heap_1_39 P) (.ref 444)=some (.type "function"):=by kernel_rfl
theorem JE(P:Params):findIn (hd.heap_1_39 P) (.ref 478) "members"=some (some (.ref 451)):=by kernel_rfl
theorem JF(P:Params):typeIn (hd.heap_1_39 P) (.ref 451)=some (.type "function"):=by kernel_rfl
theorem ZL(P:Params):findIn (hd.heap_1_39 P) (.ref 478) "nodes_of"=some (some (.ref 456)):=by kernel_rfl
theorem ZM(P:Params):typeIn (hd.heap_1_39 P) (.ref 456)=some (.type "function"):=by kernel_rfl
theorem QK(P:Params):findIn (hd.heap_1_39 P) (.ref 478) "users"=some (some (.ref 475)):=by kernel_rfl
theorem QL(P:Params):typeIn (hd.heap_1_39 P) (.ref 475)=some (.type "function"):=by kernel_rfl
theorem zeh(P:Params):nsIn (hd.heap_1_39 P) mainGlobals "is_op"=some (some (.ref 159)):=by kernel_rfl
theorem zkh(P:Params):nsIn (hd.heap_1_39 P) mainGlobals "Bank"=some (some (.ref 266)):=by kernel_rfl
theorem zcA(P:Params):nsIn (hd.heap_1_39 P) mainGlobals "Unions"=some (some (.ref 348)):=by kernel_rfl
theorem zki(P:Params):nsIn (hd.heap_1_39 P) mainGlobals "Heap"=some (some (.ref 478)):=by kernel_rfl
theorem QM(P:Params):nsIn (hd.heap_1_39 P) mainGlobals "LeastDepth"=some (some (.ref 45)):=by kernel_rfl
theorem zcB(P:Params):nsIn (hd.heap_1_39 P) mainGlobals "Keeper"=some (some (.ref 109)):=by kernel_rfl
theorem wU(P:Params):nsIn (hd.heap_1_39 P) mainGlobals "_law_both"=some (some (.ref 491)):=by kernel_rfl
theorem wV(P:Params):keepIn (hd.heap_1_39 P) (.ref 491)=true:=by kernel_rfl
theorem zaW(P:Params):nsIn (hd.heap_1_39 P) mainGlobals "_law_of"=some (some (.ref 498)):=by kernel_rfl
theorem zaX(P:Params):keepIn (hd.heap_1_39 P) (.ref 498)=true:=by kernel_rfl
theorem jq(P:Params):nsIn (hd.heap_1_39 P) mainGlobals "_law_pulled"=some (some (.ref 505)):=by kernel_rfl
theorem wW(P:Params):nsIn (hd.heap_1_39 P) mainGlobals "_law_laid"=some (some (.ref 510)):=by kernel_rfl
theorem QN(P:Params):nsIn (hd.heap_1_39 P) mainGlobals "_law_least"=some (some (.ref 515)):=by kernel_rfl
theorem G2(P:Params):nsIn (hd.heap_1_39 P) mainGlobals "_law_due"=some (some (.ref 520)):=by kernel_rfl
theorem zle(P:Params):nsIn (hd.heap_1_39 P) mainGlobals "len"=some none:=by kernel_rfl
theorem zcC(P:Params):nsIn (hd.heap_1_39 P) mainGlobals "sorted"=some none:=by kernel_rfl
theorem zei(P:Params):nsIn (hd.heap_1_39 P) mainGlobals "tuple"=some none:=by kernel_rfl
theorem zlf(P:Params):nsIn (hd.heap_1_39 P) mainGlobals "set"=some none:=by kernel_rfl
theorem zkj(P:Params):nsIn (hd.heap_1_39 P) mainGlobals "list"=some none:=by kernel_rfl
theorem zej(P:Params):nsIn (hd.heap_1_39 P) mainGlobals "range"=some none:=by kernel_rfl
theorem zlg(P:Params):nsIn (hd.heap_1_39 P) mainGlobals "sum"=some none:=by kernel_rfl
theorem zlh(P:Params):nsIn (hd.heap_1_39 P) mainGlobals "max"=some none:=by kernel_rfl
theorem zli(P:Params):nsIn (hd.heap_1_39 P) mainGlobals "min"=some none:=by kernel_rfl
theorem zlj(P:Params):nsIn (hd.heap_1_39 P) mainGlobals "abs"=some none:=by kernel_rfl
theorem Gg(P:Params):nsIn (hd.heap_1_39 P) mainGlobals "enumerate"=some none:=by kernel_rfl
end
section
set_option genSizeOf false
set_option genInjectivity false
open PySem PySem.W PySem.Calls PyProof.Rows
section
variable {B:Bs} {A:Around} {S:St} {a:Addr} {pl:Sem Bool} {Q:Value × List Value->St->Prop}
theorem jS(h:S.has a (.list xs))(hq:Q (.builtin "list.append",[.ref a]) S):V B A S (getMethod (.ref a) "append" pl) Q:=yF h (by simp[jn.ty]) PySem.F.plainAttrs_list PySem.F.slot_list_append PySem.F.type_list_append hq
theorem G3(h:S.has a (.list xs))(hq:Q (.builtin "list.extend",[.ref a]) S):V B A S (getMethod (.ref a) "extend" pl) Q:=yF h (by simp[jn.ty]) PySem.F.plainAttrs_list PySem.F.slot_list_extend PySem.F.type_list_extend hq
theorem zlI(h:S.has a (.list xs))(hq:Q (.builtin "list.pop",[.ref a]) S):V B A S (getMethod (.ref a) "pop" pl) Q:=yF h (by simp[jn.ty]) PySem.F.plainAttrs_list PySem.F.slot_list_pop PySem.F.type_list_pop hq
theorem Z6(h:S.has a (.dict es))(hq:Q (.builtin "dict.get",[.ref a]) S):V B A S (getMethod (.ref a) "get" pl) Q:=yF h (by simp[jn.ty]) PySem.F.plainAttrs_dict PySem.F.slot_dict_get PySem.F.type_dict_get hq
theorem KY(h:S.has a (.dict es))(hq:Q (.builtin "dict.pop",[.ref a]) S):V B A S (getMethod (.ref a) "pop" pl) Q:=yF h (by simp[jn.ty]) PySem.F.plainAttrs_dict PySem.F.slot_dict_pop PySem.F.type_dict_pop hq
theorem wX(h:S.has a (.dict es))(hq:Q (.builtin "dict.setdefault",[.ref a]) S):V B A S (getMethod (.ref a) "setdefault" pl) Q:=yF h (by simp[jn.ty]) PySem.F.plainAttrs_dict PySem.F.slot_dict_setdefault PySem.F.type_dict_setdefault hq
theorem zkk(h:S.has a (.dict es))(hq:Q (.builtin "dict.clear",[.ref a]) S):V B A S (getMethod (.ref a) "clear" pl) Q:=yF h (by simp[jn.ty]) PySem.F.plainAttrs_dict PySem.F.slot_dict_clear PySem.F.type_dict_clear hq
theorem zcD(h:S.has a (.dict es))(hq:Q (.builtin "dict.update",[.ref a]) S):V B A S (getMethod (.ref a) "update" pl) Q:=yF h (by simp[jn.ty]) PySem.F.plainAttrs_dict PySem.F.slot_dict_update PySem.F.type_dict_update hq
theorem YK(h:S.has a (.set es t))(hq:Q (.builtin "set.update",[.ref a]) S):V B A S (getMethod (.ref a) "update" pl) Q:=yF h (by simp[jn.ty]) PySem.F.plainAttrs_set PySem.F.slot_set_update PySem.F.type_set_update hq
end
section
variable {B:Bs} {A:Around} {own:Bool} {env:Env} {vs:Vs} {S:St} {sc:Scope} {pos:Pos} {Q:Value->Vs->St->Prop}
theorem yo(en:En env sc)(hk:sc.names.lookup ("len":Str)=some .globalImplicit)(h:Q (.builtin "len") vs S):W B A own env vs S (eval (.Name "len" pos) env) Q:=jQ en hk (zle _) (by rfl) (by decide) h
theorem y8(en:En env sc)(hk:sc.names.lookup ("sorted":Str)=some .globalImplicit)(h:Q (.builtin "sorted") vs S):W B A own env vs S (eval (.Name "sorted" pos) env) Q:=jQ en hk (zcC _) (by rfl) (by decide) h
theorem xp(en:En env sc)(hk:sc.names.lookup ("tuple":Str)=some .globalImplicit)(h:Q (.type "tuple") vs S):W B A own env vs S (eval (.Name "tuple" pos) env) Q:=jQ en hk (zei _) (by rfl) (by decide) h
theorem Xl(en:En env sc)(hk:sc.names.lookup ("set":Str)=some .globalImplicit)(h:Q (.type "set") vs S):W B A own env vs S (eval (.Name "set" pos) env) Q:=jQ en hk (zlf _) (by rfl) (by decide) h
theorem Dw(en:En env sc)(hk:sc.names.lookup ("list":Str)=some .globalImplicit)(h:Q (.type "list") vs S):W B A own env vs S (eval (.Name "list" pos) env) Q:=jQ en hk (zkj _) (by rfl) (by decide) h
theorem qP(en:En env sc)(hk:sc.names.lookup ("range":Str)=some .globalImplicit)(h:Q (.type "range") vs S):W B A own env vs S (eval (.Name "range" pos) env) Q:=jQ en hk (zej _) (by rfl) (by decide) h
theorem xY(en:En env sc)(hk:sc.names.lookup ("enumerate":Str)=some .globalImplicit)(h:Q (.type "enumerate") vs S):W B A own env vs S (eval (.Name "enumerate" pos) env) Q:=jQ en hk (Gg _) (by rfl) (by decide) h
theorem zlJ(en:En env sc)(hk:sc.names.lookup ("sum":Str)=some .globalImplicit)(h:Q (.builtin "sum") vs S):W B A own env vs S (eval (.Name "sum" pos) env) Q:=jQ en hk (zlg _) (by rfl) (by decide) h
theorem KZ(en:En env sc)(hk:sc.names.lookup ("max":Str)=some .globalImplicit)(h:Q (.builtin "max") vs S):W B A own env vs S (eval (.Name "max" pos) env) Q:=jQ en hk (zlh _) (by rfl) (by decide) h
theorem zlK(en:En env sc)(hk:sc.names.lookup ("min":Str)=some .globalImplicit)(h:Q (.builtin "min") vs S):W B A own env vs S (eval (.Name "min" pos) env) Q:=jQ en hk (zli _) (by rfl) (by decide) h
theorem zlL(en:En env sc)(hk:sc.names.lookup ("abs":Str)=some .globalImplicit)(h:Q (.builtin "abs") vs S):W B A own env vs S (eval (.Name "abs" pos) env) Q:=jQ en hk (zlj _) (by rfl) (by decide) h
end
end
section
set_option genSizeOf false
set_option genInjectivity false
open PySem PySem.W PySem.Calls PyProof.Rows
section
variable {B:Bs} {A:Around} {S:St} {r:Rg} {x d:Addr} {kvs:Vs} {v:Value} {expr:Bool} {pl:Sem Bool}
theorem xZ(hx:S.has x (.is (zd 45 d)))(hd:S.get r d=some (.attrs kvs))(h:Q () (S.put r d (.attrs (zi kvs "of_node" v))))(hz:kvs.length<=900:=by decide):V B A S (setAttr (.ref x) "of_node" v) Q:=zH (yY _) (xI _) hx hd h hz
theorem gJ(hx:S.has x (.is (zd 45 d)))(hd:S.get r d=some (.attrs kvs))(h:Q () (S.put r d (.attrs (zi kvs "joined" v))))(hz:kvs.length<=900:=by decide):V B A S (setAttr (.ref x) "joined" v) Q:=zH (yY _) (xV _) hx hd h hz
theorem jC(hx:S.has x (.is (zd 109 d)))(hd:S.has d (.attrs kvs))(hv:zo kvs "heap"=some v)(h:Q v S)(hh:handedIn v=true:=by rfl):V B A S (getAttr (.ref x) "heap" expr) Q:=zR (jm _) (Yr _) hx hd hv h hh
theorem QO(hx:S.has x (.is (zd 109 d)))(hd:S.get r d=some (.attrs kvs))(h:Q () (S.put r d (.attrs (zi kvs "heap" v))))(hz:kvs.length<=900:=by decide):V B A S (setAttr (.ref x) "heap" v) Q:=zH (jm _) (Ys _) hx hd h hz
theorem yK(hx:S.has x (.is (zd 109 d)))(hd:S.has d (.attrs kvs))(hv:zo kvs "analysis"=some v)(h:Q v S)(hh:handedIn v=true:=by rfl):V B A S (getAttr (.ref x) "analysis" expr) Q:=zR (jm _) (wg _) hx hd hv h hh
theorem wY(hx:S.has x (.is (zd 109 d)))(hd:S.get r d=some (.attrs kvs))(h:Q () (S.put r d (.attrs (zi kvs "analysis" v))))(hz:kvs.length<=900:=by decide):V B A S (setAttr (.ref x) "analysis" v) Q:=zH (jm _) (wh _) hx hd h hz
theorem je(hx:S.has x (.is (zd 109 d)))(hd:S.has d (.attrs kvs))(hv:zo kvs "values"=some v)(h:Q v S)(hh:handedIn v=true:=by rfl):V B A S (getAttr (.ref x) "values" expr) Q:=zR (jm _) (ZF _) hx hd hv h hh
theorem xG(hx:S.has x (.is (zd 109 d)))(hd:S.get r d=some (.attrs kvs))(h:Q () (S.put r d (.attrs (zi kvs "values" v))))(hz:kvs.length<=900:=by decide):V B A S (setAttr (.ref x) "values" v) Q:=zH (jm _) (ZG _) hx hd h hz
theorem QP(hx:S.has x (.is (zd 109 d)))(hd:S.get r d=some (.attrs kvs))(h:Q () (S.put r d (.attrs (zi kvs "told" v))))(hz:kvs.length<=900:=by decide):V B A S (setAttr (.ref x) "told" v) Q:=zH (jm _) (Yt _) hx hd h hz
theorem YL(hx:S.has x (.is (zd 109 d)))(hd:S.has d (.attrs kvs))(hv:zo kvs "backs"=some v)(h:Q v S)(hh:handedIn v=true:=by rfl):V B A S (getAttr (.ref x) "backs" expr) Q:=zR (jm _) (Ji _) hx hd hv h hh
theorem YM(hx:S.has x (.is (zd 109 d)))(hd:S.get r d=some (.attrs kvs))(h:Q () (S.put r d (.attrs (zi kvs "backs" v))))(hz:kvs.length<=900:=by decide):V B A S (setAttr (.ref x) "backs" v) Q:=zH (jm _) (Jj _) hx hd h hz
theorem yU(hx:S.has x (.is (zd 109 d)))(hd:S.has d (.attrs kvs))(hv:zo kvs "renewed"=none)(h:Q (.ref 70,[.ref x]) S):V B A S (getMethod (.ref x) "renewed" pl) Q:=zg (jm _) (wM _) (wN _) hx hd hv h
theorem YN(hx:S.has x (.is (zd 109 d)))(hd:S.has d (.attrs kvs))(hv:zo kvs "value"=none)(h:Q (.ref 77,[.ref x]) S):V B A S (getMethod (.ref x) "value" pl) Q:=zg (jm _) (Jk _) (Jl _) hx hd hv h
theorem YO(hx:S.has x (.is (zd 109 d)))(hd:S.has d (.attrs kvs))(hv:zo kvs "begun"=none)(h:Q (.ref 84,[.ref x]) S):V B A S (getMethod (.ref x) "begun" pl) Q:=zg (jm _) (Jm _) (Jn _) hx hd hv h
theorem wZ(hx:S.has x (.is (zd 109 d)))(hd:S.has d (.attrs kvs))(hv:zo kvs "reckoned"=none)(h:Q (.ref 89,[.ref x]) S):V B A S (getMethod (.ref x) "reckoned" pl) Q:=zg (jm _) (wi _) (wj _) hx hd hv h
theorem JG(hx:S.has x (.is (zd 109 d)))(hd:S.has d (.attrs kvs))(hv:zo kvs "settle"=none)(h:Q (.ref 94,[.ref x]) S):V B A S (getMethod (.ref x) "settle" pl) Q:=zg (jm _) (ZH _) (ZI _) hx hd hv h
theorem ZN(hx:S.has x (.is (zd 109 d)))(hd:S.has d (.attrs kvs))(hv:zo kvs "clashes"=none)(h:Q (.ref 99,[.ref x]) S):V B A S (getMethod (.ref x) "clashes" pl) Q:=zg (jm _) (wO _) (wP _) hx hd hv h
theorem jW(hx:S.has x (.is (zd 266 d)))(hd:S.has d (.attrs kvs))(hv:zo kvs "nodes"=some v)(h:Q v S)(hh:handedIn v=true:=by rfl):V B A S (getAttr (.ref x) "nodes" expr) Q:=zR (yk _) (Qy _) hx hd hv h hh
theorem Gh(hx:S.has x (.is (zd 266 d)))(hd:S.get r d=some (.attrs kvs))(h:Q () (S.put r d (.attrs (zi kvs "nodes" v))))(hz:kvs.length<=900:=by decide):V B A S (setAttr (.ref x) "nodes" v) Q:=zH (yk _) (Qz _) hx hd h hz
theorem qE(hx:S.has x (.is (zd 266 d)))(hd:S.has d (.attrs kvs))(hv:zo kvs "numbers"=some v)(h:Q v S)(hh:handedIn v=true:=by rfl):V B A S (getAttr (.ref x) "numbers" expr) Q:=zR (yk _) (Jo _) hx hd hv h hh
theorem YQ(hx:S.has x (.is (zd 266 d)))(hd:S.get r d=some (.attrs kvs))(h:Q () (S.put r d (.attrs (zi kvs "numbers" v))))(hz:kvs.length<=900:=by decide):V B A S (setAttr (.ref x) "numbers" v) Q:=zH (yk _) (Jp _) hx hd h hz
theorem x8(hx:S.has x (.is (zd 266 d)))(hd:S.has d (.attrs kvs))(hv:zo kvs "weights"=some v)(h:Q v S)(hh:handedIn v=true:=by rfl):V B A S (getAttr (.ref x) "weights" expr) Q:=zR (yk _) (Jq _) hx hd hv h hh
theorem YR(hx:S.has x (.is (zd 266 d)))(hd:S.get r d=some (.attrs kvs))(h:Q () (S.put r d (.attrs (zi kvs "weights" v))))(hz:kvs.length<=900:=by decide):V B A S (setAttr (.ref x) "weights" v) Q:=zH (yk _) (Jr _) hx hd h hz
theorem gV(hx:S.has x (.is (zd 266 d)))(hd:S.has d (.attrs kvs))(hv:zo kvs "depths"=some v)(h:Q v S)(hh:handedIn v=true:=by rfl):V B A S (getAttr (.ref x) "depths" expr) Q:=zR (yk _) (Yu _) hx hd hv h hh
theorem QQ(hx:S.has x (.is (zd 266 d)))(hd:S.get r d=some (.attrs kvs))(h:Q () (S.put r d (.attrs (zi kvs "depths" v))))(hz:kvs.length<=900:=by decide):V B A S (setAttr (.ref x) "depths" v) Q:=zH (yk _) (Yv _) hx hd h hz
theorem G4(hx:S.has x (.is (zd 266 d)))(hd:S.has d (.attrs kvs))(hv:zo kvs "size"=none)(h:Q (.ref 185,[.ref x]) S):V B A S (getMethod (.ref x) "size" pl) Q:=zg (yk _) (X0 _) (X1 _) hx hd hv h
theorem G5(hx:S.has x (.is (zd 266 d)))(hd:S.has d (.attrs kvs))(hv:zo kvs "take"=none)(h:Q (.ref 190,[.ref x]) S):V B A S (getMethod (.ref x) "take" pl) Q:=zg (yk _) (X2 _) (X3 _) hx hd hv h
theorem YS(hx:S.has x (.is (zd 266 d)))(hd:S.has d (.attrs kvs))(hv:zo kvs "require"=none)(h:Q (.ref 197,[.ref x]) S):V B A S (getMethod (.ref x) "require" pl) Q:=zg (yk _) (Js _) (Jt _) hx hd hv h
theorem zcE(hx:S.has x (.is (zd 266 d)))(hd:S.has d (.attrs kvs))(hv:zo kvs "op"=none)(h:Q (.ref 223,[.ref x]) S):V B A S (getMethod (.ref x) "op" pl) Q:=zg (yk _) (zaU _) (zaV _) hx hd hv h
theorem G6(hx:S.has x (.is (zd 266 d)))(hd:S.has d (.attrs kvs))(hv:zo kvs "kids"=none)(h:Q (.ref 230,[.ref x]) S):V B A S (getMethod (.ref x) "kids" pl) Q:=zg (yk _) (X4 _) (X5 _) hx hd hv h
theorem jc(hx:S.has x (.is (zd 348 d)))(hd:S.has d (.attrs kvs))(hv:zo kvs "above"=some v)(h:Q v S)(hh:handedIn v=true:=by rfl):V B A S (getAttr (.ref x) "above" expr) Q:=zR (jI _) (Ju _) hx hd hv h hh
theorem YT(hx:S.has x (.is (zd 348 d)))(hd:S.get r d=some (.attrs kvs))(h:Q () (S.put r d (.attrs (zi kvs "above" v))))(hz:kvs.length<=900:=by decide):V B A S (setAttr (.ref x) "above" v) Q:=zH (jI _) (Jv _) hx hd h hz
theorem yp(hx:S.has x (.is (zd 348 d)))(hd:S.has d (.attrs kvs))(hv:zo kvs "lots"=some v)(h:Q v S)(hh:handedIn v=true:=by rfl):V B A S (getAttr (.ref x) "lots" expr) Q:=zR (jI _) (Yw _) hx hd hv h hh
theorem QR(hx:S.has x (.is (zd 348 d)))(hd:S.get r d=some (.attrs kvs))(h:Q () (S.put r d (.attrs (zi kvs "lots" v))))(hz:kvs.length<=900:=by decide):V B A S (setAttr (.ref x) "lots" v) Q:=zH (jI _) (Yx _) hx hd h hz
theorem JH(hx:S.has x (.is (zd 348 d)))(hd:S.has d (.attrs kvs))(hv:zo kvs "merged"=some v)(h:Q v S)(hh:handedIn v=true:=by rfl):V B A S (getAttr (.ref x) "merged" expr) Q:=zR (jI _) (ZJ _) hx hd hv h hh
theorem JJ(hx:S.has x (.is (zd 348 d)))(hd:S.get r d=some (.attrs kvs))(h:Q () (S.put r d (.attrs (zi kvs "merged" v))))(hz:kvs.length<=900:=by decide):V B A S (setAttr (.ref x) "merged" v) Q:=zH (jI _) (ZK _) hx hd h hz
theorem QS(hx:S.has x (.is (zd 348 d)))(hd:S.has d (.attrs kvs))(hv:zo kvs "make"=none)(h:Q (.ref 291,[.ref x]) S):V B A S (getMethod (.ref x) "make" pl) Q:=zg (jI _) (Yy _) (Yz _) hx hd hv h
theorem gW(hx:S.has x (.is (zd 348 d)))(hd:S.has d (.attrs kvs))(hv:zo kvs "size"=none)(h:Q (.ref 298,[.ref x]) S):V B A S (getMethod (.ref x) "size" pl) Q:=zg (jI _) (YA _) (YB _) hx hd hv h
theorem yZ(hx:S.has x (.is (zd 348 d)))(hd:S.has d (.attrs kvs))(hv:zo kvs "find"=none)(h:Q (.ref 305,[.ref x]) S):V B A S (getMethod (.ref x) "find" pl) Q:=zg (jI _) (YC _) (YD _) hx hd hv h
theorem YU(hx:S.has x (.is (zd 348 d)))(hd:S.has d (.attrs kvs))(hv:zo kvs "merge"=none)(h:Q (.ref 312,[.ref x]) S):V B A S (getMethod (.ref x) "merge" pl) Q:=zg (jI _) (Jw _) (Jx _) hx hd hv h
theorem ZO(hx:S.has x (.is (zd 348 d)))(hd:S.has d (.attrs kvs))(hv:zo kvs "members"=none)(h:Q (.ref 319,[.ref x]) S):V B A S (getMethod (.ref x) "members" pl) Q:=zg (jI _) (wQ _) (wR _) hx hd hv h
theorem ZP(hx:S.has x (.is (zd 348 d)))(hd:S.has d (.attrs kvs))(hv:zo kvs "classes"=none)(h:Q (.ref 324,[.ref x]) S):V B A S (getMethod (.ref x) "classes" pl) Q:=zg (jI _) (wS _) (wT _) hx hd hv h
theorem qQ(hx:S.has x (.is (zd 478 d)))(hd:S.has d (.attrs kvs))(hv:zo kvs "bank"=some v)(h:Q v S)(hh:handedIn v=true:=by rfl):V B A S (getAttr (.ref x) "bank" expr) Q:=zR (zM _) (X6 _) hx hd hv h hh
theorem G7(hx:S.has x (.is (zd 478 d)))(hd:S.get r d=some (.attrs kvs))(h:Q () (S.put r d (.attrs (zi kvs "bank" v))))(hz:kvs.length<=900:=by decide):V B A S (setAttr (.ref x) "bank" v) Q:=zH (zM _) (X7 _) hx hd h hz
theorem jN(hx:S.has x (.is (zd 478 d)))(hd:S.has d (.attrs kvs))(hv:zo kvs "unions"=some v)(h:Q v S)(hh:handedIn v=true:=by rfl):V B A S (getAttr (.ref x) "unions" expr) Q:=zR (zM _) (YE _) hx hd hv h hh
theorem QT(hx:S.has x (.is (zd 478 d)))(hd:S.get r d=some (.attrs kvs))(h:Q () (S.put r d (.attrs (zi kvs "unions" v))))(hz:kvs.length<=900:=by decide):V B A S (setAttr (.ref x) "unions" v) Q:=zH (zM _) (YF _) hx hd h hz
theorem w4(hx:S.has x (.is (zd 478 d)))(hd:S.has d (.attrs kvs))(hv:zo kvs "edges"=some v)(h:Q v S)(hh:handedIn v=true:=by rfl):V B A S (getAttr (.ref x) "edges" expr) Q:=zR (zM _) (QA _) hx hd hv h hh
theorem Gi(hx:S.has x (.is (zd 478 d)))(hd:S.get r d=some (.attrs kvs))(h:Q () (S.put r d (.attrs (zi kvs "edges" v))))(hz:kvs.length<=900:=by decide):V B A S (setAttr (.ref x) "edges" v) Q:=zH (zM _) (QB _) hx hd h hz
theorem QU(hx:S.has x (.is (zd 478 d)))(hd:S.has d (.attrs kvs))(hv:zo kvs "forest"=some v)(h:Q v S)(hh:handedIn v=true:=by rfl):V B A S (getAttr (.ref x) "forest" expr) Q:=zR (zM _) (YG _) hx hd hv h hh
theorem QV(hx:S.has x (.is (zd 478 d)))(hd:S.get r d=some (.attrs kvs))(h:Q () (S.put r d (.attrs (zi kvs "forest" v))))(hz:kvs.length<=900:=by decide):V B A S (setAttr (.ref x) "forest" v) Q:=zH (zM _) (YH _) hx hd h hz
theorem Gj(hx:S.has x (.is (zd 478 d)))(hd:S.has d (.attrs kvs))(hv:zo kvs "known"=some v)(h:Q v S)(hh:handedIn v=true:=by rfl):V B A S (getAttr (.ref x) "known" expr) Q:=zR (zM _) (QC _) hx hd hv h hh
theorem Gk(hx:S.has x (.is (zd 478 d)))(hd:S.get r d=some (.attrs kvs))(h:Q () (S.put r d (.attrs (zi kvs "known" v))))(hz:kvs.length<=900:=by decide):V B A S (setAttr (.ref x) "known" v) Q:=zH (zM _) (QD _) hx hd h hz
theorem jX(hx:S.has x (.is (zd 478 d)))(hd:S.has d (.attrs kvs))(hv:zo kvs "above"=some v)(h:Q v S)(hh:handedIn v=true:=by rfl):V B A S (getAttr (.ref x) "above" expr) Q:=zR (zM _) (QE _) hx hd hv h hh
theorem Gl(hx:S.has x (.is (zd 478 d)))(hd:S.get r d=some (.attrs kvs))(h:Q () (S.put r d (.attrs (zi kvs "above" v))))(hz:kvs.length<=900:=by decide):V B A S (setAttr (.ref x) "above" v) Q:=zH (zM _) (QF _) hx hd h hz
theorem qF(hx:S.has x (.is (zd 478 d)))(hd:S.has d (.attrs kvs))(hv:zo kvs "waiting"=some v)(h:Q v S)(hh:handedIn v=true:=by rfl):V B A S (getAttr (.ref x) "waiting" expr) Q:=zR (zM _) (Jy _) hx hd hv h hh
theorem YV(hx:S.has x (.is (zd 478 d)))(hd:S.get r d=some (.attrs kvs))(h:Q () (S.put r d (.attrs (zi kvs "waiting" v))))(hz:kvs.length<=900:=by decide):V B A S (setAttr (.ref x) "waiting" v) Q:=zH (zM _) (Jz _) hx hd h hz
theorem w6(hx:S.has x (.is (zd 478 d)))(hd:S.has d (.attrs kvs))(hv:zo kvs "backs"=some v)(h:Q v S)(hh:handedIn v=true:=by rfl):V B A S (getAttr (.ref x) "backs" expr) Q:=zR (zM _) (QG _) hx hd hv h hh
theorem Gm(hx:S.has x (.is (zd 478 d)))(hd:S.get r d=some (.attrs kvs))(h:Q () (S.put r d (.attrs (zi kvs "backs" v))))(hz:kvs.length<=900:=by decide):V B A S (setAttr (.ref x) "backs" v) Q:=zH (zM _) (QH _) hx hd h hz
theorem G8(hx:S.has x (.is (zd 478 d)))(hd:S.has d (.attrs kvs))(hv:zo kvs "size"=none)(h:Q (.ref 373,[.ref x]) S):V B A S (getMethod (.ref x) "size" pl) Q:=zg (zM _) (X8 _) (X9 _) hx hd hv h
theorem Z7(hx:S.has x (.is (zd 478 d)))(hd:S.has d (.attrs kvs))(hv:zo kvs "node"=none)(h:Q (.ref 378,[.ref x]) S):V B A S (getMethod (.ref x) "node" pl) Q:=zg (zM _) (Ga _) (Gb _) hx hd hv h
theorem YW(hx:S.has x (.is (zd 478 d)))(hd:S.has d (.attrs kvs))(hv:zo kvs "add"=none)(h:Q (.ref 383,[.ref x]) S):V B A S (getMethod (.ref x) "add" pl) Q:=zg (zM _) (GY _) (GZ _) hx hd hv h
theorem zaZ(hx:S.has x (.is (zd 478 d)))(hd:S.has d (.attrs kvs))(hv:zo kvs "put"=none)(h:Q (.ref 388,[.ref x]) S):V B A S (getMethod (.ref x) "put" pl) Q:=zg (zM _) (G0 _) (G1 _) hx hd hv h
theorem ga(hx:S.has x (.is (zd 478 d)))(hd:S.has d (.attrs kvs))(hv:zo kvs "look_at"=none)(h:Q (.ref 395,[.ref x]) S):V B A S (getMethod (.ref x) "look_at" pl) Q:=zg (zM _) (JA _) (JB _) hx hd hv h
theorem jD(hx:S.has x (.is (zd 478 d)))(hd:S.has d (.attrs kvs))(hv:zo kvs "find"=none)(h:Q (.ref 402,[.ref x]) S):V B A S (getMethod (.ref x) "find" pl) Q:=zg (zM _) (Gc _) (Gd _) hx hd hv h
theorem Gn(hx:S.has x (.is (zd 478 d)))(hd:S.has d (.attrs kvs))(hv:zo kvs "merge"=none)(h:Q (.ref 416,[.ref x]) S):V B A S (getMethod (.ref x) "merge" pl) Q:=zg (zM _) (QI _) (QJ _) hx hd hv h
theorem Z8(hx:S.has x (.is (zd 478 d)))(hd:S.has d (.attrs kvs))(hv:zo kvs "join"=none)(h:Q (.ref 423,[.ref x]) S):V B A S (getMethod (.ref x) "join" pl) Q:=zg (zM _) (Ge _) (Gf _) hx hd hv h
theorem QW(hx:S.has x (.is (zd 478 d)))(hd:S.has d (.attrs kvs))(hv:zo kvs "settle"=none)(h:Q (.ref 430,[.ref x]) S):V B A S (getMethod (.ref x) "settle" pl) Q:=zg (zM _) (YI _) (YJ _) hx hd hv h
theorem gc(hx:S.has x (.is (zd 478 d)))(hd:S.has d (.attrs kvs))(hv:zo kvs "classes"=none)(h:Q (.ref 444,[.ref x]) S):V B A S (getMethod (.ref x) "classes" pl) Q:=zg (zM _) (JC _) (JD _) hx hd hv h
theorem YX(hx:S.has x (.is (zd 478 d)))(hd:S.has d (.attrs kvs))(hv:zo kvs "members"=none)(h:Q (.ref 451,[.ref x]) S):V B A S (getMethod (.ref x) "members" pl) Q:=zg (zM _) (JE _) (JF _) hx hd hv h
theorem JK(hx:S.has x (.is (zd 478 d)))(hd:S.has d (.attrs kvs))(hv:zo kvs "nodes_of"=none)(h:Q (.ref 456,[.ref x]) S):V B A S (getMethod (.ref x) "nodes_of" pl) Q:=zg (zM _) (ZL _) (ZM _) hx hd hv h
theorem Go(hx:S.has x (.is (zd 478 d)))(hd:S.has d (.attrs kvs))(hv:zo kvs "users"=none)(h:Q (.ref 475,[.ref x]) S):V B A S (getMethod (.ref x) "users" pl) Q:=zg (zM _) (QK _) (QL _) hx hd hv h
end
end
section
set_option genSizeOf false
set_option genInjectivity false
open PySem PySem.W PySem.Calls PyProof.Rows
section
variable {α β γ:Type} {B:Bs} {A:Around} {own:Bool} {env:Env} {vs:Vs} {S:St}
noncomputable def gd{ι:Type}(B:Bs)(A:Around)(own:Bool)(env:Env)(vs:Vs)(S:St)(iter:Expr)(src:ι->Src B)(Q:ι->Vs->St->Prop):Prop :=
 ∀X s,Ok B S X s->zA own env vs S X s->wpAny (model B.prog B.w) A (eval iter env) (λv s₁=>wpAny (model B.prog B.w) A (pyIter v) (λiv s₂ =>
  ∃j T vs' S',iv = .ref (T.headD 0)/\Ok B S' X s₂/\zA own env vs' S' X s₂/\zE T env S' X/\(src j).It s₂.heap T 0/\Q j vs' S') cf s₁) cf s
theorem zY{ι:Type}(s1:ι->gH B){iter:Expr}{Q:ι->Vs->St->Prop}(h:W B A own env vs S (eval iter env) (λv vs S=>∃j,v=(s1 j).val/\(s1 j).need S/\Q j vs S)):gd B A own env vs S iter (λj=>(s1 j).src) Q:=λX s o f=>by
 refine wpAny_mono (h X s o f) (λv s₁ q=>?_) λZZ ZZ e=>e.elim;obtain⟨bf,S₁,k₁,f₁,j,rfl,nd,q⟩:=q;refine(s1 j).start k₁ nd λo₂ hf hit=>?_;have st:zE [s₁.heap.objs.size] env S₁ X:=zE.new k₁ f₁ λa m=>ae (Kf.mp m) (Kz _);have ext:yg [s₁.heap.objs.size] s₁.heap (s₁.heap.push o₂):=λb ob ZZ e=>Ke _ e;exact⟨j,[s₁.heap.objs.size],bf,S₁,rfl,k₁.bx st.1 st.2 ext s₁.toks,f₁.bx st ext s₁.toks,st,⟨_,rfl,hit⟩,q⟩
theorem qi{ι:Type}(src:ι->Src B){target iter:Expr}{body:List Stmt}{pos:Pos}{Q:Flow->Vs->St->Prop}{Bind:ι->Nat->Vs->St->Vs->St->Prop}(Inv:ι->Nat->Vs->St->Prop)(hh:A.handled=none)(hi:gd B A own env vs S iter src (λj=>Inv j 0))(hd:∀j,gG B A own env target (src j) (Bind j))(need:∀j i vs S,Inv j i vs S->(src j).need S)(step:∀j i vs S vs' S',i<(src j).n->Inv j i vs S->Bind j i vs S vs' S'->W B A own env vs' S' (execs body env) (λfl vs S=>match fl with
   | .next | .cont=>Inv j (i+1) vs S
   | .brk=>Q .next vs S
   | .ret r=>Q (.ret r) vs S))(fin:∀j vs S,Inv j (src j).n vs S->Q .next vs S)(hs:∀x,foldedSetIterable iter env x=pure x:=by intro _;rfl):W B A own env vs S (exec (.For target iter body [] pos) env) Q:=λX s o f=>by
 refine wpAny_For (wpAny_mono (hi X s o f) (λv s₁ q=>wpAny_mono q (λiv s₂ q=>?_) λZZ ZZ e=>e.elim) λZZ ZZ e=>e.elim) hs;obtain⟨j,T,vs',S',rfl,k₂,f₂,st,it,hI⟩:=q;exact IT (src j) (hd j) (Inv j) hh (need j) (step j) (fin j) (Kt _) k₂ f₂ st it hI
theorem Xm(r:Rg)(K:C4 B γ){ι:Type}(src:ι->Src B){sc scope:Scope}{e:Expr}{target iter:Expr}{ifs:List Expr}{rest:List Comprehension}{Bind:ι->Nat->Vs->St->Vs->St->Prop}{caps:Vs}{mv:Sem Value}{my:Pos}{add:Addr->Env->Sem Unit}{use:Option (Value->Sem Unit)}{Q:Value->Shared->Prop}{X:Addr->Option Obj}{s:Shared}(Inv:ι->Nat->St->γ->Prop)(cellOf:γ->jn->Prop)(there:∀{h:Heap} {D:Addr} {l:γ},K.P h D l->∃o c,h.get? D=some o/\cellOf l c/\c.Fits o)(eD:clausesOf e=⟨target,iter,ifs,0⟩::rest)(eY:∀{s:Shared} {Q:Value->Shared->Prop},Q (.ref s.heap.objs.size) { s with heap:=s.heap.push K.obj }->wpAny (model B.prog B.w) A mv Q cf s)(rC:∀it acc aW,(Code.compLoop e 0 it acc aW).quiet=true)(uT:∀(T:List Addr) (D:Addr) (aW:Env) {R:Fin->Shared->Prop} {RE:Value->Shared->Prop} {s:Shared},wpAny (model B.prog B.w) A (Zu target iter ifs (.ref (T.headD 0)) (add D aW) (.compLoop e 0 (.ref (T.headD 0)) (.ref D) aW) aW) R cf s->
   wpAny (model B.prog B.w) (A.under (.compLoop e 0 (.ref (T.headD 0)) (.ref D) aW)) ((model B.prog B.w).den (.compLoop e 0 (.ref (T.headD 0)) (.ref D) aW)) R RE s)(rD:∀(T:List Addr) (D:Addr) (aW:Env) {R:Result->Shared->Prop} {s:Shared},codeAny (model B.prog B.w) A (.compLoop e 0 (.ref (T.headD 0)) (.ref D) aW) R s->
   (∀{Q E:Value->Shared->Prop},Q (.ref (T.headD 0)) s->wpAny (model B.prog B.w) A (pyIter (.ref (T.headD 0))) Q E s)->codeAny (model B.prog B.w) A (.compStart e 0 (.ref (T.headD 0)) (.ref D) aW) R s)(en:En env sc)(cx:yG scope sc=true)(cN:Je scope vs caps)(o:Ok B S X s)(f:zA own env vs S X s)(hh:A.handled=none)(hi:gd B A own env vs S iter src (λj vs' S'=>vs'=vs/\Inv j 0 S' K.nil))(hs:∀x,foldedSetIterable iter env x=pure x)(hd:∀j env2,En env2 (zZ scope sc)->gG B A false env2 target (src j) (Bind j))(need:∀j i S l,Inv j i S l->(src j).need S)(sub:∀j i S vs' S',Bind j i caps S vs' S'->caps.Sub vs')(step:∀j env2,En env2 (zZ scope sc)->∀D i S l vs' S',i<(src j).n->Inv j i S l->Bind j i caps S vs' S'->jA B A false env2 ifs vs' S' (λok aI S₂=>if ok=true then
    ∀X s,Ok B S₂ X s->zA false env2 aI S₂ X s->zE [D] env2 S₂ X->K.P s.heap D l->wpAny (model B.prog B.w) A (add D env2) (λZZ s'=>∃aD S₃ l',Ok B S₃ X s'/\zA false env2 aD S₃ X s'/\vs'.Sub aD/\K.P s'.heap D l'/\Inv j (i+1) S₃ l'/\zE [D] env2 S₃ X) cf s
   else vs'.Sub aI/\Inv j (i+1) S₂ l))(fin:∀j S l c D C s',Inv j (src j).n S l->cellOf l c->S.no D->D≠C->S.no C->(∀h' t,Heap.SameBut C s'.heap h'->Ok B (S.put r D c) X { s' with heap:=h',toks:=t }/\zA own env vs (S.put r D c) X { s' with heap:=h',toks:=t })->zE [C] env (S.put r D c) X->(∃m,s'.heap.Ns C m)->
   compPost (model B.prog B.w) A cf use Q (.ref D) C (.ok .next) s'): wpAny (model B.prog B.w) A (comprehension e scope env my mv false (eval iter env) use) Q cf s:=by
 refine Hn (Xa cx) λhk bI iy lS=>?_;refine wpAny_comprehension_free eD hs (Qg λx hx hf=>en.5 _ (lS x hx hf)) hk iy ?_;refine wpAny_mono (hi X s o f) (λv s₁ q=>wpAny_mono q (λiv s₂ q=>?_) λZZ ZZ e=>e) λZZ ZZ e=>e;refine xi q λj T vs' S' bR o₂ f₂ st it bo hI=>?_;obtain rfl:=bR;obtain rfl:=bo;refine eY (Wr K.free en cx cN o₂ f₂ st it λC s' hC bq pW k₁ f₁ dp cB it₁ hD=>?_);have' ebt:env.builtins=builtinsNs:=en.4;refine(?_:codeAny (model B.prog B.w) A (.compStart e 0 (.ref (T.headD 0)) (.ref s₂.heap.objs.size) (compEnvC scope (j5 env scope.names []) C env)) _ s');refine rD T _ _ ?_ (λh=>(src j).self it₁ h);have' key:_:=Wo (src j) (B:=B) (A:=A) (own:=false) (env:=compEnvC scope (j5 env scope.names []) C env) (caps:=caps) K.P (D:=s₂.heap.objs.size) (T:=T) (add:=add s₂.heap.objs.size (compEnvC scope (j5 env scope.names []) C env)) (target:=target) (iter:=iter) (ifs:=ifs)
  (rC _ _ _) (fun {R RE s} h=>uT T _ _ h) K.keep (λh=>by refine j8 (there h) λo c e ZZ=>?_;exact⟨o,e⟩) (hd j _ bq) (Inv j) hh pW (need j) (sub j) (λi S l vs' S' aC hI bd=>step j _ bq _ i S l vs' S' aC hI bd)
  (R:=λr s'=>match r with | .ok fl=>compPost (model B.prog B.w) A cf use Q (.ref s₂.heap.objs.size) C (.ok fl) s' | .error _=>False)
  (λS₃ l s₃ k₃ f₃ kl hP lR=>?_) (Kt _) k₁ f₁ dp cB it₁ (K.start hD) hI
 ·refine codeAny_mono key λr s' h=>?_;cases r with
  | ok fl=>exact h
  | error x=>exact h.elim
 ·refine jg (there hP) λob c e1 bI rk=>?_;have lh:s₂.heap.objs.size≠C:=ae hC (K6 (Ln _));have' big:_:=o₂.above (a:=C) (ae hC (Lq _));have aC:s₂.heap.objs.size<C:=ae hC (Ln _);refine zV f₃.1 λm hn ZZ=>?_;refine fin j S₃ l c s₂.heap.objs.size C s₃ lR bI (kl.2 _ (.head _)) lh f₃.4 (λh' t ix=>Wu (env2:=compEnvC scope (j5 env scope.names []) C env) rfl lh o₂ f₂ rfl k₃ f₃ kl ⟨ob,e1,rk⟩ ix t) ⟨λa m=>?_,λa m=>?_,λa m=>?_,λa m x c hx=>?_⟩ ⟨m,hn⟩
  ·exact ae (Kf.mp m) big.2
  ·exact ae (Kf.mp m) (St.eU f₃.4 (Ne.symm lh))
  ·exact ae (Kf.mp m) (Ly (Mf f₂.Bl aC))
  ·exact ae (Kf.mp m) (K6 (Mf (f₂.uj o₂ x c hx) aC))
theorem Xn(r:Rg){ι:Type}(src:ι->Src B){sc scope:Scope}{elt target iter:Expr}{ifs:List Expr}{pos my:Pos}{Bind:ι->Nat->Vs->St->Vs->St->Prop}(caps:Vs){use:Option (Value->Sem Unit)}{Q:Value->Shared->Prop}{X:Addr->Option Obj}{s:Shared}(Inv:ι->Nat->St->List Value->Prop)(en:En env sc)(cx:yG scope sc=true)(cN:Je scope vs caps)(o:Ok B S X s)(f:zA own env vs S X s)(hh:A.handled=none)(hz:∀j,(src j).n<=1000000)(hi:gd B A own env vs S iter src (λj vs' S'=>vs'=vs/\Inv j 0 S' []))(hs:∀x,foldedSetIterable iter env x=pure x)(hd:∀j env2,En env2 (zZ scope sc)->gG B A false env2 target (src j) (Bind j))(need:∀j i S l,Inv j i S l->(src j).need S)(sub:∀j i S vs' S',Bind j i caps S vs' S'->caps.Sub vs')(step:∀j,wB B A (zZ scope sc) (src j) ifs caps (Bind j) (Inv j) (λenv2 l i vs' aI S₂=>W B A false env2 aI S₂ (eval elt env2) (λy aD S₃=>vs'.Sub aD/\Inv j (i+1) S₃ (l++[y]))))(fin:∀j S l D C s',Inv j (src j).n S l->S.no D->D≠C->(∀h' t,Heap.SameBut C s'.heap h'->Ok B (S.put r D (.list l)) X { s' with heap:=h',toks:=t }/\zA own env vs (S.put r D (.list l)) X { s' with heap:=h',toks:=t })->zE [C] env (S.put r D (.list l)) X->(∃m,s'.heap.Ns C m)->
   compPost (model B.prog B.w) A cf use Q (.ref D) C (.ok .next) s'): wpAny (model B.prog B.w) A (comprehension (.ListComp elt [⟨target,iter,ifs,0⟩] scope pos) scope env my (newList []) false (eval iter env) use) Q cf s:=by
 refine Xm r (wA B) src (add:=λD aW=>wy elt (.ref D) aW) (Bind:=Bind) (λj i S l=>Inv j i S l/\l.length<=i) (λl c=>c = .list l) (λzp=>by obtain⟨_,n,e⟩:=zp;exact⟨_,_,e,rfl,n,rfl⟩) rfl (λh=>?_) (λZZ ZZ ZZ=>Wv) Qh Wx en cx cN o f hh ?_ hs hd (λj i S l h=>need j i S l h.1) sub ?_ ?_
 ·refine wpAny_newObj_type ?_ (Kt _);exact h
 ·intro X s o f;refine wpAny_mono (hi X s o f) (λv s₁ q=>wpAny_mono q (λiv s₂ q=>?_) λZZ ZZ e=>e) λZZ ZZ e=>e;refine xi q λj T vs' S' e1 o' f' st it e2 hI=>?_;exact⟨j,T,vs',S',e1,o',f',st,it,e2,hI,Kz 0⟩
 ·intro j env2 bq D i S l vs' S' aC hI bd;have' this:_:=step j env2 bq i S l vs' S' aC hI.1 bd;have go:∀ok aI S₂,(if ok=true then W B A false env2 aI S₂ (eval elt env2) (λy aD S₃=>vs'.Sub aD/\Inv j (i+1) S₃ (l++[y])) else vs'.Sub aI/\Inv j (i+1) S₂ l)->
    (if ok=true then
    ∀X s,Ok B S₂ X s->zA false env2 aI S₂ X s->zE [D] env2 S₂ X->(wA B).P s.heap D l->wpAny (model B.prog B.w) A (wy elt (.ref D) env2) (λZZ s'=>∃aD S₃ l',Ok B S₃ X s'/\zA false env2 aD S₃ X s'/\vs'.Sub aD/\(wA B).P s'.heap D l'/\(Inv j (i+1) S₃ l'/\l'.length<=i+1)/\zE [D] env2 S₃ X) cf s
   else vs'.Sub aI/\Inv j (i+1) S₂ l/\l.length<=i+1):=by
   intro ok aI S₂ h;cases ok with
   | false =>
    simp only[Bool.false_eq_true,if_false]at h |-;exact⟨h.1,h.2,Mu hI.2⟩
   | true =>
    simp only[if_true]at h |-;intro X s o f sD hP;refine wpAny_mono (GK (n:=(src j).n) (Inv:=Inv j (i+1)) (vs':=vs') (K1 hI.2 aC) (hz j) h X s o f sD hP) (λZZ s' q=>?_) λZZ ZZ e=>e;refine yw q λaD S₃ l' a1 a2 a3 a4 a5 a6=>?_;exact⟨aD,S₃,l',a1,a2,a3,a4,⟨a5.1,Ks a5.2 (L9 hI.2)⟩,a6⟩
  rcases ifs with _ | ⟨c,_ | _⟩
  ·exact go true vs' S' this
  ·exact Zp this λok aI S₂=>go ok aI S₂
  ·exact this.elim
 ·intro j S l c D C s' hI hc hD lh hC ok st hn;subst hc;exact fin j S l D C s' hI.1 hD lh ok st hn
theorem zG(r:Rg){ι:Type}(src:ι->Src B){sc scope:Scope}{elt target iter:Expr}{ifs:List Expr}{pos:Pos}{Bind:ι->Nat->Vs->St->Vs->St->Prop}(caps:Vs){Q:Value->Vs->St->Prop}(Inv:ι->Nat->St->List Value->Prop)(en:En env sc)(cx:yG scope sc=true)(cN:Je scope vs caps)(hh:A.handled=none)(hz:∀j,(src j).n<=1000000)(hi:gd B A own env vs S iter src (λj vs' S'=>vs'=vs/\Inv j 0 S' []))(hd:∀j env2,En env2 (zZ scope sc)->gG B A false env2 target (src j) (Bind j))(need:∀j i S l,Inv j i S l->(src j).need S)(sub:∀j i S vs' S',Bind j i caps S vs' S'->caps.Sub vs')(step:∀j,wB B A (zZ scope sc) (src j) ifs caps (Bind j) (Inv j) (λenv2 l i vs' aI S₂=>W B A false env2 aI S₂ (eval elt env2) (λy aD S₃=>vs'.Sub aD/\Inv j (i+1) S₃ (l++[y]))))(fin:∀j S l D,Inv j (src j).n S l->S.no D->Q (.ref D) vs (S.put r D (.list l)))(hs:∀x,foldedSetIterable iter env x=pure x:=by intro _;rfl): W B A own env vs S (eval (.ListComp elt [⟨target,iter,ifs,0⟩] scope pos) env) Q:=λX s o f=>by
 rw[eval_ListComp];refine Xn r src caps Inv en cx cN o f hh hz hi hs hd need sub step λj S l D C s' hI hD lh ok st hn=>?_;refine aB hn λm hn=>?_;refine⟨m,hn,λh' ix=>?_⟩;refine bE (ok h' s'.toks ix) λa b=>?_;exact⟨vs,_,a,b,fin j S l D hI hD⟩
theorem zba(r:Rg)(src:Src B){sc scope:Scope}{elt target iter:Expr}{ifs:List Expr}{pos:Pos}{Bind:Nat->Vs->St->Vs->St->Prop}(caps:Vs){Q:Value->Vs->St->Prop}(Inv:Nat->St->List Value->Prop)(en:En env sc)(cx:yG scope sc=true)(cN:Je scope vs caps)(hh:A.handled=none)(hz:src.n<=1000000)(hi:GH B A own env vs S iter src (λvs' S'=>vs'=vs/\Inv 0 S' []))(hd:∀env2,En env2 (zZ scope sc)->gG B A false env2 target src Bind)(need:∀i S l,Inv i S l->src.need S)(sub:∀i S vs' S',Bind i caps S vs' S'->caps.Sub vs')(step:wB B A (zZ scope sc) src ifs caps Bind Inv (λenv2 l i vs' aI S₂=>W B A false env2 aI S₂ (eval elt env2) (λy aD S₃=>vs'.Sub aD/\Inv (i+1) S₃ (l++[y]))))(fin:∀S l D,Inv src.n S l->S.no D->Q (.ref D) vs (S.put r D (.list l)))(hs:∀x,foldedSetIterable iter env x=pure x:=by intro _;rfl): W B A own env vs S (eval (.ListComp elt [⟨target,iter,ifs,0⟩] scope pos) env) Q :=
 zG r (λ_:Unit=>src) caps (λZZ=>Inv) en cx cN hh (λZZ=>hz)
  (λX s o f=>wpAny_mono (hi X s o f) (λZZ ZZ q=>wpAny_mono q (λ_ _ zp=>by obtain⟨T,a,b,c⟩:=zp;exact⟨(),T,a,b,c⟩) λZZ ZZ e=>e) λZZ ZZ e=>e)
  (λZZ=>hd) (λZZ=>need) (λZZ=>sub) (λZZ=>step) (λZZ=>fin) hs
theorem qG(r:Rg){ι:Type}(src:ι->Src B){sc scope:Scope}{elt target iter:Expr}{ifs:List Expr}{pos py rE:Pos}{y:Str}{Bind:ι->Nat->Vs->St->Vs->St->Prop}(caps:Vs){Q:Flow->Vs->St->Prop}(Inv:ι->Nat->St->List Value->Prop)(en:En env sc)(rF:(sc.names.lookup y == some .local&&py.line == pos.line && !(scope.names.any fun(n,k)=>n == y&&(k == .local||k == .cell)))=true)(cx:yG scope sc=true)(cN:Je scope vs caps)(hh:A.handled=none)(hz:∀j,(src j).n<=1000000)(hi:gd B A own env vs S iter src (λj vs' S'=>vs'=vs/\Inv j 0 S' []))(hd:∀j env2,En env2 (zZ scope sc)->gG B A false env2 target (src j) (Bind j))(need:∀j i S l,Inv j i S l->(src j).need S)(sub:∀j i S vs' S',Bind j i caps S vs' S'->caps.Sub vs')(step:∀j,wB B A (zZ scope sc) (src j) ifs caps (Bind j) (Inv j) (λenv2 l i vs' aI S₂=>W B A false env2 aI S₂ (eval elt env2) (λy aD S₃=>vs'.Sub aD/\Inv j (i+1) S₃ (l++[y]))))(fin:∀j S l D,Inv j (src j).n S l->S.no D->Q .next (zi vs y (.ref D)) (S.put r D (.list l)))(hs:∀x,foldedSetIterable iter env x=pure x:=by intro _;rfl): W B A own env vs S (exec (.Assign [.Name y py] (.ListComp elt [⟨target,iter,ifs,0⟩] scope pos) rE) env) Q:=λX s o f=>by
 have hl:sc.names.lookup y=some .local:=by
  simp only[Bool.and_eq_true,beq_iff_eq]at rF;exact rF.1.1
 refine ae (exec_Assign_Name_used _ _ _ _ ((g9 en).trans (ae rF rfl))) ?_;refine wpAny_bind (wpAny_standAt (wpAny_bind ?_));refine(?_:wpAny _ A (do let _ <-comprehension (.ListComp elt [⟨target,iter,ifs,0⟩] scope pos) scope env _ (newList []) false (eval iter env) (some (assign (.Name y py) env))) _ _ s);refine wpAny_bind (wpAny_mono (Xn (Q:=λZZ=>Pw B own env X (Q .next)) r src caps Inv en cx cN o f hh hz hi hs hd need sub step λj S l D C s' hI hD lh ok st hn =>
  Xb (Q:=Q .next) en (ae hl rfl) (.inr hl) ok st hn (fin j S l D hI hD)) (λZZ s' q=>wpAny_pure (wpAny_pure q)) λZZ ZZ e=>e)
end
end
section
set_option genSizeOf false
set_option genInjectivity false
open PySem PySem.W PySem.Calls PyProof.Rows PySem.SeqAt
section
variable {B:Bs} {A:Around} {S:St} {x y:Str} {t u:Tok}
theorem G9(h:Q (.bool (x == y)) S):V B A S (compareOp .Eq (.str x t) (.str y u)) Q:=λX s o=>PyProof.Rows.eq_str ⟨S,o,h⟩
theorem zel(h:Q (.bool (x != y)) S):V B A S (compareOp .NotEq (.str x t) (.str y u)) Q:=λX s o=>PyProof.Rows.ne_str ⟨S,o,h⟩
theorem zem(h:Q (.bool !(Builtin.Str.occurrences x y 0 x.length 1).isEmpty) S):V B A S (compareOp .In (.str y u) (.str x t)) Q:=λX s o=>PyProof.Rows.in_str ⟨S,o,h⟩
theorem zaa(h:Q (.builtin "str.isspace",[.str x t]) S):V B A S (getMethod (.str x t) "isspace" pl) Q:=λX s o=>PySem.GM.isspace ⟨S,o,h⟩
theorem zcF(h:Q (.bool (Txt.isspace x)) S):V B A S (call (.builtin "str.isspace") ([.str x t]++[])) Q:=λX s o=>PySem.SC.isspace ⟨S,o,h⟩
end
section
variable {B:Bs} {A:Around} {own:Bool} {env:Env} {vs:Vs} {S:St}
theorem zlM{e₁ e₂ rest pos}(h:W B A own env vs S (eval e₁ env) (λv vs S=>W B A own env vs S (truthy v) (λc vs S=>if c then W B A own env vs S (eval (.BoolOp .And (e₂::rest) pos) env) Q else Q v vs S))):
  W B A own env vs S (eval (.BoolOp .And (e₁::e₂::rest) pos) env) Q:=λX s o f=>BoolOp_and (wpAny_mono (h X s o f) (λv s₁ ⟨_,_,k₁,f₁,q⟩=>wpAny_mono (q X s₁ k₁ f₁) (λc s₂ zk7=>by
   obtain⟨aI,S₂,k₂,f₂,q⟩:=zk7;cases c
   ·exact⟨aI,S₂,k₂,f₂,q⟩
   ·exact q X s₂ k₂ f₂) λZZ ZZ e=>e) λZZ ZZ e=>e)
end
noncomputable def LA(B:Bs)(x:Str)(t:Tok)(ha:x.cps.all (· < 128)=true):gH B where
 val:=.str x t
 n:=x.cps.size
 P:=λi v=>∃c u,x.cps[i]? = some c/\v = .str ⟨#[c]⟩ u
 It:=λh it i=>h.IsStrIter it "str_ascii_iterator" x t i
 need:=λZZ=>True
 keep:=λzp q=>by refine zt zp λo e r=>?_;exact⟨o,q.trans e,r⟩
 there:=λzp=>by refine zV zp λo e ZZ=>?_;exact⟨o,e⟩
 self:=λhit h=>wpAny_pyIter_striter_ascii hit h
 start:=λo hn h=>wpAny_pyIter_ascii ha (h _ rfl ⟨_,Kl _ rfl,rfl,rfl⟩)
 item:=fun {A S X s it i Q} o hn hit aC h=>by
  have hx:x.cps[i]? = some (x.cps[i]'aC):=Mi aC;exact wpAny_pyNext_ascii_item hit hx λh' bw hs=>h _ h' _ ⟨_,_,hx,rfl⟩ bw hs
 stop:=λhh o hn hit h=>wpAny_pyNext_ascii_end hh hit (Array.getElem?_eq_none (Kz _)) h
end
section
noncomputable def gf(above:List Nat):Nat->Nat->Nat
 | 0,i=>i
 | n+1,i=>if above.getD i 0=i then i else gf above n (above.getD i 0)
noncomputable def root(above:List Nat)(i:Nat):Nat:=gf above i i
noncomputable def j4(par:List Nat):Nat:=(List.range par.length).countP λi=>par.getD i 0 == i
noncomputable def UI(par:List Nat)(aj:List (List Nat)):Prop:=A4
 (aj.length=par.length)
 (par.length<=12)
 (∀j,par.getD j 0<=j)
 (∀r,r<par.length->par.getD r 0=r->(aj.getD r []).Perm ((List.range par.length).filter λi=>root par i == r))
theorem LC(hle:∀j,par.getD j 0<=j):∀n i,gf par n i<=i
 | 0,i=>Kz _
 | n+1,i=>by
  unfold gf;split
  ·exact Kz _
  ·exact Ks (LC hle n _) (hle i)
theorem wk(hle:∀j,par.getD j 0<=j):∀n m i,i<=n->i<=m->gf par n i=gf par m i
 | 0,m,i,h,_=>by
  have' this:i=0:=Xz h;subst this;have' e:par.getD 0 0=0:=by have' this:_:=hle 0;exact Xz this
  cases m with
  | zero=>rfl
  | succ m=>unfold gf;refine ae (if_pos e) ?_;rfl
 | n+1,0,i,_,h=>by
  have' this:i=0:=Xz h;subst this;have' e:par.getD 0 0=0:=by have' this:_:=hle 0;exact Xz this
  unfold gf;refine ae (if_pos e) ?_;rfl
 | n+1,m+1,i,h1,h2=>by
  unfold gf;by_cases e:par.getD i 0=i
  ·exact ae (if_pos e) (ae (if_pos e) rfl)
  ·refine ae (if_neg e) ?_;refine ae (if_neg e) ?_;have:=hle i;exact wk hle n m _ (HD this h1 e) (HD this h2 e)
theorem qu(hle:∀j,par.getD j 0<=j)(i:Nat):root par i=if par.getD i 0=i then i else root par (par.getD i 0):=by
 unfold root;have' this:_:=hle i;refine ae (wk hle i (i+1) i (Kz _) (Lq _)) ?_;refine(?_:(if par.getD i 0=i then i else gf par i (par.getD i 0))=_);split
 ·rfl
 ·exact wk hle _ _ _ this (Kz _)
theorem jL(hle:∀j,par.getD j 0<=j)(i:Nat):root par i<=i:=LC hle i i
theorem zq(hle:∀j,par.getD j 0<=j)(i:Nat):par.getD (root par i) 0=root par i:=by
 induction i using Nat.strongRecOn with
 | ind i ih =>
  rw[qu hle];split
  ·assumption
  ·rename_i h;exact ih _ (Lb (hle i) h)
theorem bp(h:par.getD i 0=i):root par i=i:=by
 unfold root;cases i with
 | zero=>rfl
 | succ i=>unfold gf;refine ae (if_pos h) ?_;rfl
theorem yV(hle:∀j,par.getD j 0<=j)(i:Nat):root par (root par i)=root par i:=bp (zq hle i)
theorem ye(l:List α)(d:α)(y:Nat)(x:α)(hy:y<l.length)(i:Nat):(l.set y x).getD i d=if i=y then x else l.getD i d:=by
 refine ae Kh ?_;refine ae List.getElem?_set ?_;by_cases e:y=i
 ·subst e;simp[hy]
 ·exact ae (if_neg e) (ae (if_neg (Ne.symm e)) rfl)
theorem w7(hle:∀j,par.getD j 0<=j)(hx:par.getD x 0=x)(hy:par.getD y 0=y)(cy:x<y)(hl:y<par.length)(i:Nat):
  root (par.set y x) i=if root par i=y then x else root par i:=by
 have Dx:∀j,(par.set y x).getD j 0<=j:=λj=>by
  rw[ye _ _ _ _ hl];split
  ·exact HE cy ‹_›
  ·exact hle j
 induction i using Nat.strongRecOn with
 | ind i ih =>
  rw[qu Dx,ye _ _ _ _ hl];by_cases e:i=y
  ·subst e;refine ae (if_pos rfl) ?_;refine ae (if_neg (Zi cy)) ?_;refine ae (bp hy) ?_;refine ae (if_pos rfl) ?_;refine ae (ih x cy) ?_;refine ae (bp hx) ?_;exact ae (if_neg (Zi cy)) rfl
  ·refine ae (if_neg e) ?_;by_cases e2:par.getD i 0=i
   ·exact ae (if_pos e2) (ae (bp e2) (ae (if_neg e) rfl))
   ·exact ae (if_neg e2) (ae (ih _ (Lb (hle i) e2)) (ae (qu hle i) (ae (if_neg e2) rfl)))
theorem YY(p q:Nat->Bool)(h:∀i,¬(p i=true/\q i=true)):∀l:List Nat,(l.filter p++l.filter q).Perm (l.filter λi=>p i||q i):=by
 intro zl;induction zl with
 | nil =>
  exact List.Perm.refl _
 | cons a l ih =>
  have ih:=ih;have' ha:_:=h a;cases hp:p a <;> cases hq:q a
  ·simp[hp,hq];exact ih
  ·simp[hp,hq];exact(List.perm_middle).trans (List.Perm.cons a ih)
  ·simp[hp,hq];exact ih
  ·exact absurd ⟨hp,hq⟩ ha
theorem UI.merge{par:List Nat}{aj:List (List Nat)}(I:UI par aj){x y:Nat}(hx:par.getD x 0=x)(hy:par.getD y 0=y)(cy:x<y)(hl:y<par.length):
  UI (par.set y x) (aj.set x (aj.getD x []++aj.getD y [])) :=
 ⟨(by simp[I.1]),
 (by simp[I.2]),
 (λj=>by
  rw[ye _ _ _ _ hl];split
  ·exact HE cy ‹_›
  ·exact I.3 j),
 (λr hr lB=>by
  rw[List.length_set]at hr |-;have hlx:x<aj.length:=ae I.1 (Zj cy hl);rw[ye _ _ _ _ hl]at lB;have uU:r≠y:=by
   intro e;rw[if_pos e]at lB;exact CM cy lB e
  rw[if_neg uU]at lB;rw[ye _ _ _ _ hlx];by_cases e:r=x
  ·subst e;refine ae (if_pos rfl) ?_;refine((I.4 r hr hx).append (I.4 y hl hy)).trans ?_;refine(YY _ _ ?_ _).trans ?_
   ·intro i ⟨h1,h2⟩;simp only[beq_iff_eq]at h1 h2;exact Rm cy h1 h2
   ·refine List.Perm.of_eq (Vw λi ZZ=>?_);rw[w7 I.3 hx hy cy hl];by_cases e3:root par i=y
    ·refine ae (if_pos e3) ?_;simp[e3]
    ·refine ae (if_neg e3) ?_;simp[e3]
  ·refine ae (if_neg e) ?_;refine(I.4 r hr lB).trans (List.Perm.of_eq (Vw λi ZZ=>?_));rw[w7 I.3 hx hy cy hl];by_cases e3:root par i=y
   ·refine ae (if_pos e3) ?_;refine ae e3 ?_;have' h1:(y == r)=false:=by rw[beq_eq_false_iff_ne];exact Ne.symm uU
    have' h2:(x == r)=false:=by rw[beq_eq_false_iff_ne];exact Ne.symm e
    exact ae h1 (ae h2 rfl)
   ·exact ae (if_neg e3) rfl)⟩
theorem zbb(hp:p y=true)(hq:q y=false)(h:∀z,z≠y->p z=q z):∀{l:List Nat},l.Nodup->y∈l->l.countP p=l.countP q+1:=by
 intro zl;induction zl with
 | nil=>intro _ hm;nomatch hm
 | cons a l ih =>
  intro hn hm;rw[List.nodup_cons]at hn;by_cases e:a=y
  ·subst e;have' this:l.countP p=l.countP q:=Mw λz hz=>by
    refine ae (h z (λe=>hn.1 (e▸hz))) ?_;rfl
   simp[List.countP_cons,hp,hq,this]
  ·have' dx:y∈l:=by simpa[Ne.symm e] using hm
   have' ih:_:=ih hn.2 dx;refine ae Md ?_;refine ae Md ?_;refine ae ih ?_;refine ae (h a e) ?_;exact Rn
theorem xq(hy:par.getD y 0=y)(cy:x≠y)(hl:y<par.length):j4 par=j4 (par.set y x)+1:=by
 unfold j4;refine ae Vn ?_;refine zbb (p:=λi=>par.getD i 0 == i) (q:=λi=>(par.set y x).getD i 0 == i) (y:=y) (beq_iff_eq.mpr hy) ?_ ?_ (List.nodup_range) (K8.mpr hl)
 ·refine(?_:((par.set y x).getD y 0 == y)=false);rewrite [ye _ _ _ _ hl];refine ae (if_pos rfl) ?_;exact beq_eq_false_iff_ne.mpr cy
 ·intro z hz;refine(?_:(par.getD z 0 == z)=((par.set y x).getD z 0 == z));rewrite [ye _ _ _ _ hl];refine ae (if_neg hz) ?_;rfl
theorem zQ{α:Type}(l m:List α)(d:α){i:Nat}(h:i<l.length):(l++m).getD i d=l.getD i d:=by
 simp[List.getD_eq_getElem?_getD,List.getElem?_append_left h]
theorem jJ(l:List α)(x d:α):(l++[x]).getD l.length d=x:=by
 simp[List.getD_eq_getElem?_getD]
theorem gB{α:Type}(l:List α)(d:α){i:Nat}(h:l.length<=i):l.getD i d=d:=by
 simp[List.getD_eq_getElem?_getD,List.getElem?_eq_none h]
theorem LD(hle:∀j,par.getD j 0<=j)(j:Nat):(par++[par.length]).getD j 0<=j:=by
 by_cases h:j<par.length
 ·exact ae (zQ _ _ _ h) (hle j)
 ·by_cases e:j=par.length
  ·subst e;rw[jJ];exact Kz _
  ·exact ae (gB _ _ (ae Ki (ae Kj (Ro h e)))) HF
theorem gC{par:List Nat}(hle:∀j,par.getD j 0<=j){i:Nat}(hi:i<par.length):root (par++[par.length]) i=root par i:=by
 induction i using Nat.strongRecOn with
 | ind i ih =>
  rewrite [qu (LD hle),qu hle];refine ae (zQ _ _ _ hi) ?_;split
  ·rfl
  ·rename_i h;have:=hle i;exact ih _ (Rp this h) (HG this hi h)
theorem w8(par:List Nat):root (par++[par.length]) par.length=par.length:=bp (by rw[jJ])
theorem UI.make(I:UI par aj)(hz:par.length<12):UI (par++[par.length]) (aj++[[par.length]]) :=
 ⟨(by simp[I.1]),
 (by simp;exact Rq hz),
 (LD I.3),
 (λr hr lB=>by
  rw[List.length_append,List.length_singleton]at hr |-;refine ae Vl ?_;rw[List.filter_append];by_cases e:r=par.length
  ·subst e;refine aR I.1 ?_;rewrite [jJ];refine ae I.1 ?_;have' h1:(List.range par.length).filter (λi=>root (par++[par.length]) i == par.length)=[]:=by
    rw[List.filter_eq_nil_iff];intro i hi;rw[List.mem_range]at hi;refine ae (gC I.3 hi) ?_;have' this:_:=jL I.3 i;rw[beq_iff_eq];exact Rr this hi
   refine ae h1 ?_;simp[w8]
  ·have uV:r<par.length:=xB hr e;refine ae (zQ _ _ _ (ae I.1 uV)) ?_;rw[zQ _ _ _ uV]at lB;have' h2:[par.length].filter (λi=>root (par++[par.length]) i == r)=[]:=by
    rw[List.filter_eq_nil_iff];intro i hi;refine ae (Kf.mp hi) ?_;rw[w8];rw[beq_iff_eq];exact Rt hr e
   refine ae h2 ?_;rw[List.append_nil];refine(I.4 r uV lB).trans (List.Perm.of_eq (Vw λi hi=>?_));exact ae (gC I.3 (K8.mp hi)) rfl)⟩
theorem yC(par:List Nat):j4 (par++[par.length])=j4 par+1:=by
 unfold j4;refine ae Ki ?_;refine ae Kj ?_;refine ae Vl ?_;refine ae List.countP_append ?_;have' h1:(List.range par.length).countP (λi=>(par++[par.length]).getD i 0 == i)=(List.range par.length).countP (λi=>par.getD i 0 == i) :=
  Mw λi hi=>by
   refine ae (zQ _ _ _ (K8.mp hi)) ?_;rfl
 refine ae h1 ?_
 congr 1
 refine ae Md ?_;rw[List.countP_nil,Nat.zero_add];rw[if_pos];rw[jJ];exact if_pos rfl
theorem UI.iJ{par:List Nat}{aj:List (List Nat)}(I:UI par aj){r:Nat}(hr:r<par.length)(h:par.getD r 0=r):(aj.getD r []).length<=12:=by
 refine ae ((I.4 r hr h).length_eq) ?_;have' h1:_:=Mh (λi=>root par i == r) (List.range par.length);rw[List.length_range]at h1;have' this:_:=I.2;exact bX h1 this
end
section
open PySem PySem.W PySem.Calls PyProof.Rows
@[reducible] noncomputable def Sb{α:Type}(K Q:α->Vs->St->Prop):Prop:=∀a vs S,Q a vs S->K a vs S
section
variable {α:Type} {B:Bs} {A:Around} {own:Bool} {env:Env} {vs:Vs} {S:St}
theorem Sb.use{K Q:α->Vs->St->Prop}{a:α}(i:Sb K Q)(h:Q a vs S):K a vs S:=i _ _ _ h
theorem Sb.w{t:Sem α}{K Q:α->Vs->St->Prop}(i:Sb K Q)(h:W B A own env vs S t Q):W B A own env vs S t K:=Zp h i
theorem z7{c:Bool}{A B:Prop}(e:c=true)(h:A):if c=true then A else B:=ae (if_pos e) h
theorem jf{c:Bool}{A B:Prop}(e:c=false)(h:B):if c=true then A else B:=by refine ae (if_neg (by refine ae e ?_;exact Kn)) ?_;exact h
theorem Dy(h:∀K,Sb K Q->W B A own env vs S t K):W B A own env vs S t Q:=h Q λZZ ZZ ZZ h=>h
theorem QX{st:Stmt}{rest:List Stmt}(_:Sb Q Q')(h:∀K,Sb K (λfl vs S=>match fl with | .next=>W B A own env vs S (execs rest env) Q | f=>Q f vs S)->W B A own env vs S (exec st env) K):
  W B A own env vs S (execs (st::rest) env) Q:=yf (Dy h)
theorem yq{st:Stmt}{rest:List Stmt}(h:∀Q',Sb Q' Q->∀K,Sb K (λfl vs S=>match fl with | .next=>W B A own env vs S (execs rest env) Q' | f=>Q' f vs S)->W B A own env vs S (exec st env) K):
  W B A own env vs S (execs (st::rest) env) Q:=Dy λZZ i=>yf (Dy (h _ i))
theorem YZ{st:Stmt}{rest:List Stmt}(i:Sb Q Q')(h:∀K,Sb K (λfl vs S=>match fl with | .next=>W B A own env vs S (execs rest env) Q | f=>Q f vs S)->let vs':=vs;W B A own env vs' S (exec st env) K):
  W B A own env vs S (execs (st::rest) env) Q:=QX i h
theorem Y0{st:Stmt}{rest:List Stmt}(h:∀Q',Sb Q' Q->∀K,Sb K (λfl vs S=>match fl with | .next=>W B A own env vs S (execs rest env) Q' | f=>Q' f vs S)->let vs':=vs;W B A own env vs' S (exec st env) K):
  W B A own env vs S (execs (st::rest) env) Q:=yq h
end
end
open PySem PySem.W PySem.Calls PyProof.Rows PySem.SeqAt
local macro_rules | `(tactic| w_left) => `(tactic| first | assumption | exact gk ‹_› | exact kY ‹_› | exact kZ ‹_› | exact gb ‹_› | exact gu ‹_› | exact gl ‹_› | exact gh ‹_› | exact ui ‹_›)
local macro_rules | `(tactic| o_readsAll) => `(tactic| first
  | ((with_reducible refine' Zq ?ka ?kb ?kc ?_); (case ka => assumption); (case kb => rfl); (case kc => rfl))
  | with_reducible first | refine YZ ‹_› ?_; intro _ _ _ | refine Y0 ?_; intro _ _ _ _ _ | refine ZT ?_ | refine GF ?_ | refine VR ?_ | refine GC fun _ => ?_ | refine GD fun _ => ?_ | refine XF ?_ | refine XG ?_ | refine GE ?_ | refine wr ?_ | refine VS ?_ | refine VY ?_ | refine ‹Sb _ _› _ _ _ ?_
  | ((with_reducible refine' VW ?_ ?ka); (case ka => with_unfolding_all rfl))
  | ((with_reducible first | refine' VU ?_ ?ka | refine' IM ?_ ?ka); (case ka => rfl))
  | ((with_reducible refine' Wz ?ka ?_ ?kb); (case ka => assumption); (case kb => rfl))
  | ((with_reducible refine' qS ?ka ?kb ?_ ?kc); (case ka => assumption); (case kb => rfl); (case kc => rfl)))
local macro_rules | `(tactic| w_means) => `(tactic| repeat with_reducible refine ‹Sb _ _› _ _ _ ?_)
local macro_rules | `(tactic| w_fin) => `(tactic| repeat o_readsAll)
local macro_rules | `(tactic| o_unpack $x) => `(tactic| ((first | refine ao ($x (by w_left) (by w_left) (by rfl) ?_) | refine ao ($x (by w_left) ?_) | (refine' $x ?ka ?kb ?_; (case ka => assumption); (case kb => rfl)) | (refine' wq ?ka ?kb ($x _) ?_; (case ka => assumption); (case kb => rfl))); (try first | refine qx ?_ | refine Jc ?_ | refine yE (by delta Bs.K; kernel_rfl) ?_); w_fin))
local macro_rules | `(tactic| o_reads) => `(tactic| dsimp only [St.put, St.to, St.get])
section
set_option genSizeOf false
set_option genInjectivity false
/-! pS Dz -/
structure UL where
 u:Addr
 ud:Addr
 pa:Addr
 la:Addr
 ma:Addr
noncomputable def LJ(l:Mp)(as:List Addr)(aj:List (List Nat)):Prop:=as.length=aj.length/\∀(i:Nat) a,as[i]? = some a->∃xs,l a=some (.list xs)/\IntsAre xs ((aj.getD i []).map Int.ofNat)
noncomputable def UR(L:UL)(k u l:Mp)(par:List Nat)(aj:List (List Nat)):Prop:=A6
 (k L.u=some (.is (zd 348 L.ud)))
 (u L.ud=some (.attrs [("above",.ref L.pa),("lots",.ref L.la),("merged",.ref L.ma)]))
 (∃vs,u L.pa=some (.list vs)/\IntsAre vs (par.map Int.ofNat))
 (∃as:List Addr,A3 (u L.la=some (.list (as.map .ref))) as.Nodup (LJ l as aj))
 (∃ms,u L.ma=some (.list ms)/\ms.length+j4 par=par.length)
 (L.pa≠L.la/\L.pa≠L.ma/\L.la≠L.ma)
theorem UR.mono{L:UL}{par:List Nat}{aj:List (List Nat)}(h:UR L k u l par aj)(le:k.le k'):UR L k' u l par aj:=⟨le _ _ h.1,h.2,h.3,h.4,h.5,h.6⟩
variable {B:Bs} {A:Around} {S:St} {L:UL} {par:List Nat} {aj:List (List Nat)}
theorem jk{vs:List Value}{ns:List Nat}(h:IntsAre vs (ns.map Int.ofNat)){i:Nat}(hi:i<ns.length):∃t,vs[i]? = some (.int (ns.getD i 0:Nat) t):=by
 refine aB (h.get i (Int.ofNat (ns.getD i 0)) (by refine ae Lf ?_;refine ae (Ka hi) ?_;simp[List.getD_eq_getElem?_getD,hi])) λt e=>?_;exact⟨t,e⟩
theorem Za{ns:List Nat}(h:IntsAre vs (ns.map Int.ofNat)):vs.length=ns.length:=by refine ae h.length ?_;rw[List.length_map]
theorem gD{i:Nat}(R:zC 1 A)(U:UR L S.k S.u S.l par aj)(I:UI par aj)(hi:i<par.length)(h:∀t,Q (.int (root par i:Nat) t) S):
  V B A S (call (.ref 305) [.ref L.u,.int i t]) Q:=by
 refine zL (f:=305) (binds:=[("self",.ref L.u),("a",.int i t)]) (n:=0) (by delta Bs.K;k_is) (by kernel_rfl) R rfl (by rfl) (by kernel_rfl) ?_;intro A' env R' en;dsimp only at en;obtain⟨u1,u2,⟨vs,u3,u4⟩,_,_,_⟩:=U;refine yq ?_;intro _ _ _ _
 let Inv1:Nat->Vs->St->Prop:=λn vs' S'=>S'=S/\(E2 fun(j:Nat) (t:Tok)=>A4 (vs'=([("self",.ref L.u),("a",.int j t)]:Vs)) (j<par.length) (root par j=root par i) (n=j))
 refine wx Inv1 i ⟨rfl,i,t,rfl,hi,rfl,rfl⟩ ?_;rintro n vs' S' ⟨rfl,j,t,rfl,hj,hr,rfl⟩;have' low:_:=hi;have dec:=I.3 n;have Bx:=qu I.3 n;refine aB (jk u4 hj) λt2 By=>?_;w_fin;o_unpack jc;w_fin;refine ao (zm (by w_left) By ?_ (df hj I.2));w_fin;refine ao (xc ?_);refine zc ?_;by_cases e:par.getD n 0=n
 ·have' c:((((par.getD n 0:Nat):Int)) != ((n:Nat):Int))=false:=by refine ae e ?_;exact bne_self_eq_false _
  refine jf c ?_;w_fin;rw[if_pos e]at Bx;refine⟨S',St.le_refl _,?_⟩;exact aR Bx (ae hr (h _))
 ·have c:((((par.getD n 0:Nat):Int)) != ((n:Nat):Int))=true:=bne_iff_ne.mpr (Ru dec e);refine z7 c ?_;w_fin;o_unpack jc;w_fin;refine ao (zm (by w_left) By ?_ (df hj I.2));w_fin;rw[if_neg e]at Bx;exact⟨par.getD n 0,Lb dec e,rfl,par.getD n 0,t2,rfl,by exact HG dec hj e,Bx.symm.trans hr,rfl⟩
theorem Y1(R:zC 1 A)(U:UR L S.k S.u S.l par aj)(I:UI par aj)(h:∀t,Q (.int par.length t) S):V B A S (call (.ref 298) [.ref L.u]) Q:=by
 refine zL (f:=298) (binds:=[("self",.ref L.u)]) (n:=0) (by delta Bs.K;k_is) (by kernel_rfl) R rfl (by rfl) (by kernel_rfl) ?_;intro A' env R' en;dsimp only at en;obtain⟨u1,u2,⟨vs,u3,u4⟩,_,_,_⟩:=U;have hl:=Za u4;have' small:_:=I.2;w_fin;o_unpack yo;w_fin;o_unpack jc;w_fin;refine ao (zI (by w_left) (JS hl small) λt=>?_);refine ae hl ?_;w_means;exact⟨S,St.le_refl _,h t⟩
theorem zU{m:Mp}{a b:Addr}{c c':jn}(h:m a=some c)(h':m b=some c')(n:c≠c'):a≠b:=λe=>by
 subst e;rw[h]at h';obtain rfl:=Option.some.inj h';exact n rfl
theorem zD{m:Mp}{a b:Addr}{c:jn}(h:m a=some c)(h':m b=none):a≠b:=λe=>by
 subst e;rw[h]at h';injection h'
theorem gg(h:IntsAre vs (ns.map Int.ofNat)):IntsAre (vs++[.int (n:Nat) t]) ((ns++[n]).map Int.ofNat):=by
 refine ae K2 ?_;exact IntsAre.append h (.cons _ t .nil)
theorem zcG{Q:Value->St->Prop}(R:zC 1 A)(U:UR L S.k S.u S.l par aj)(I:UI par aj)(hz:par.length<12)(h:∀t u' l',UR L S.k u' l' (par++[par.length]) (aj++[[par.length]])->Q (.int par.length t) ⟨S.k,S.b,u',l',S.h,S.v,S.p,S.m⟩):V B A S (call (.ref 291) [.ref L.u]) Q:=by
 refine zL (f:=291) (binds:=[("self",.ref L.u)]) (n:=0) (by delta Bs.K;k_is) (by kernel_rfl) R rfl (by rfl) (by kernel_rfl) ?_;intro A' env R' en;dsimp only at en;obtain⟨u1,u2,⟨vs,u3,u4⟩,⟨as,u5,u6,u7,u8⟩,⟨ms,u9,n9⟩,o9,pe,rG⟩:=U;have hl:=Za u4;have' small:_:=I.2;have dz:=I.1;w_fin;o_unpack jc;o_unpack jS;w_fin;o_unpack yo;w_fin;o_unpack jc;w_fin;refine ao (zI (by w_left) (JS hl (K5 hz)) λt=>?_);w_fin;refine ao (jR (r:=.u) u3 (HJ hl hz rfl) ?_);refine ae hl ?_;o_reads;have' n1:_:=zU u2 u3 (by intro e;injection e);have w2:=(zb S.u (.list (vs++[.int (par.length:Nat) t])) n1).trans u2;have' w3:_:=za S.u L.pa (.list (vs++[.int (par.length:Nat) t]));have w5:=(zb S.u (.list (vs++[.int (par.length:Nat) t])) (Ne.symm o9)).trans u5;have' w9:_:=(zb S.u (.list (vs++[.int (par.length:Nat) t])) (Ne.symm pe)).trans u9;generalize upd S.u L.pa (.list (vs++[.int (par.length:Nat) t]))=w at w2 w3 w5 w9 |-;w_fin;o_unpack yp;o_unpack jS;w_fin;refine jM ?_;w_fin;o_unpack yo;w_fin;o_unpack yp;w_fin;refine ao (zI (by w_left) (by rw[List.length_map];exact JS (u7.trans dz) (K5 hz)) λt2=>?_);rewrite [List.length_map];refine ae u7 ?_;refine ae dz ?_;w_fin;refine jr .l (Kv _) λa ha=>?_;o_reads;w_fin;refine ao (jR (r:=.u) w5 (by rw[List.length_map];exact Rv u7 dz hz rfl) ?_);o_reads;have' n2:_:=zU w2 w5 (by intro e;injection e);have x2:=(zb w (.list (as.map .ref++[.ref a])) n2).trans w2;have x3:=(zb w (.list (as.map .ref++[.ref a])) o9).trans w3;have' x5:_:=za w L.la (.list (as.map .ref++[.ref a]));have' x9:_:=(zb w (.list (as.map .ref++[.ref a])) (Ne.symm rG)).trans w9;generalize upd w L.la (.list (as.map .ref++[.ref a]))=w' at x2 x3 x5 x9 |-;have uW:S.l a=none:=ha .l;w_fin;o_unpack yo;w_fin;o_unpack jc;w_fin;refine ao (zI (by w_left) (by simp;exact Rw hl hz rfl) λt3=>?_);w_fin;refine ao (Zs λt4=>?_);have' e4:(((vs++[Value.int (par.length:Nat) t]).length:Nat):Int) - 1=(par.length:Nat):=by
  refine ae Ki ?_;refine ae hl ?_;simp
 refine ae e4 ?_;w_means;refine⟨_,St.le_refl _,h _ _ _ ⟨u1,x2,⟨_,x3,gg u4⟩,⟨as++[a],ae K2 x5,?_,?_,?_⟩,⟨_,x9,by rewrite [yC];refine ae Ki ?_;refine ae Kj ?_;exact Rx n9⟩,o9,pe,rG⟩⟩
 ·rw[List.nodup_append];refine⟨u6,(Ll _ _),λx hx y hy e=>?_⟩;refine Ja (Me.mp hx) λi hi e5=>?_;refine zV (u8 i x (by refine ae (Ka hi) ?_;refine ae e5 ?_;rfl)) λxs e6 ZZ=>?_;rw[e,List.mem_singleton.mp hy,uW]at e6;injection e6
 ·exact ae Ki (ae Ki (ae u7 rfl))
 ·intro i b hb;by_cases hi:i<as.length
  ·rw[List.getElem?_append_left hi]at hb;refine zt (u8 i b hb) λxs e6 e7=>?_;have' nb:b≠a:=zD e6 uW;refine⟨xs,(zb _ _ nb).trans e6,?_⟩;refine ae Kh ?_;refine ae (Mj (HK hi dz u7)) ?_;refine aR Kh ?_;exact e7
  ·have kq:=(Kb.mp hb).1;rw[List.length_append,List.length_singleton]at kq;have' this:i=as.length:=Ry kq u7 dz hi;subst this;rw[List.getElem?_append_right (Nat.le_refl _)]at hb;simp at hb;subst hb;refine⟨_,za _ _ _,?_⟩;refine ae u7 ?_;refine ae Kh ?_;refine ae (List.getElem?_append_right (Kz _)) ?_;simp;exact .cons _ t2 .nil
theorem zep{ns:List Nat}{y x:Nat}(h:IntsAre vs (ns.map Int.ofNat))(hy:y<ns.length):IntsAre (vs.set y (.int (x:Nat) t)) ((ns.set y x).map Int.ofNat):=by
 induction ns generalizing vs y with
 | nil=>exact absurd hy (K4 _)
 | cons n ns ih =>
  refine j8 h.cons_inv λt' vs' bR h'=>?_;obtain rfl:=bR;cases y with
  | zero=>exact .cons _ t h'
  | succ y=>exact .cons _ t' (ih h' (Vd hy))
theorem Gp{l:Mp}{as:List Addr}(h:LJ l as aj){i:Nat}(hi:i<aj.length):∃a xs,as[i]? = some a/\l a=some (.list xs)/\IntsAre xs ((aj.getD i []).map Int.ofNat):=by
 have eZ:i<as.length:=ae h.1 hi;refine zt (h.2 i _ (Ka eZ)) λxs e1 e2=>?_;exact⟨_,xs,Ka eZ,e1,e2⟩
theorem zlN(hp:bJ.Perm [(x:Int),(y:Int)])(hs:bJ.Pairwise (·<=·)):bJ=[((min x y:Nat):Int),((max x y:Nat):Int)]:=by
 have' h1:_:=hp.length_eq;obtain⟨a,r,rfl⟩:=M5 h1;obtain⟨b,r,rfl⟩:=M5 (Nat.succ.inj h1);obtain rfl:=Lk.mp (Nat.succ.inj (Nat.succ.inj h1))
 ·have eM:a<=b:=by
   rw[List.pairwise_cons]at hs;exact hs.1 b (.head _)
  have' m1:a=x\/a=y:=by simpa using hp.mem_iff.mp (show a∈[a,b] from .head _)
  have' m2:b=x\/b=y:=by simpa using hp.mem_iff.mp (show b∈[a,b] from .tail _ (.head _))
  have m3:(x:Int)=a\/(x:Int)=b:=by simpa using hp.mem_iff.mpr (show(x:Int)∈[(x:Int),(y:Int)] from .head _)
  have m4:(y:Int)=a\/(y:Int)=b:=by simpa using hp.mem_iff.mpr (show(y:Int)∈[(x:Int),(y:Int)] from .tail _ (.head _))
  congr 1
  ·exact Rz m3 m4 m1 eM
  ·congr 1;exact RA m3 m4 m2 eM
theorem zac{i j:Nat}(R:zC 2 A)(U:UR L S.k S.u S.l par aj)(I:UI par aj)(hi:i<par.length)(hj:j<par.length)(h1:root par i=root par j->∀k',S.k.le k'->Q .none (S.to .k k'))(h2:∀x y c k' u' l' t1 t2,root par i≠root par j->x=min (root par i) (root par j)->y=max (root par i) (root par j)->S.k.le k'->k' c=some (.tup [.int (x:Nat) t1,.int (y:Nat) t2])->
   UR L k' u' l' (par.set y x) (aj.set x (aj.getD x []++aj.getD y []))->Q (.ref c) ⟨k',S.b,u',l',S.h,S.v,S.p,S.m⟩):V B A S (call (.ref 312) [.ref L.u,.int i t,.int j u]) Q:=by
 refine zL (f:=312) (binds:=[("self",.ref L.u),("a",.int i t),("b",.int j u)]) (n:=1) (by delta Bs.K;k_is) (by kernel_rfl) R rfl (by rfl) (by kernel_rfl) ?_;intro A' env R' en;dsimp only at en;have U0:=U;obtain⟨u1,u2,⟨vs,u3,u4⟩,⟨as,u5,u6,lt⟩,⟨ms,u9,n9⟩,o9,pe,rG⟩:=U;have' hl:_:=Za u4;have small:=I.2;have dz:=I.1;w_fin;refine yi rfl ?_;w_fin;o_unpack y8;w_fin;refine jM ?_;w_fin;o_unpack yZ;w_fin;refine ao (gD R' U0 I hi λt1=>?_);w_fin;o_unpack yZ;w_fin;refine ao (gD R' U0 I hj λt2=>?_);w_fin;refine ya (Kq _ _) λc1 k1 aU lC ZZ=>?_;w_fin;refine ao (gT (r:=.k) (gk lC) (ns:=[((root par i:Nat):Int),((root par j:Nat):Int)]) (.cons _ t1 (.cons _ t2 .nil)) (Kq _ _) λc2 out bJ aH hI hp hs=>?_);have' iz:_:=zlN hp hs;subst iz;refine j8 hI.cons_inv λt3 ZZ bo Dk=>?_;obtain rfl:=bo;refine j8 Dk.cons_inv λt4 ZZ bG Bz=>?_;obtain rfl:=bG;obtain rfl:=Bz.nil_inv;have' cC:k1 c2=none:=aH .k;o_reads;have bt:S.k.le (upd k1 c2 (.list [.int ((min (root par i) (root par j):Nat):Int) t3,.int ((max (root par i) (root par j):Nat):Int) t4])):=Mp.le_trans aU (Mp.av cC);have' BA:_:=za k1 c2 (.list [.int ((min (root par i) (root par j):Nat):Int) t3,.int ((max (root par i) (root par j):Nat):Int) t4]);generalize upd k1 c2 (.list [.int ((min (root par i) (root par j):Nat):Int) t3,.int ((max (root par i) (root par j):Nat):Int) t4])=k2 at bt BA |-;refine jU R'.3 (.inr (gk BA)) rfl (yB en rfl rfl (.inl rfl) ?_) (by rfl);try dsimp only[zi]
 generalize hx:min (root par i) (root par j)=x;generalize hy:max (root par i) (root par j)=y;w_fin;refine ao (xb ?_);refine zc ?_;by_cases e:root par i=root par j
 ·have' c:(((x:Nat):Int) == ((y:Nat):Int))=true:=by refine aR hx ?_;refine aR hy ?_;refine ae e ?_;exact if_pos rfl
  refine z7 c ?_;w_fin;exact⟨_,St.le_refl _,h1 e _ bt⟩
 ·have c:(((x:Nat):Int) == ((y:Nat):Int))=false:=by
   rw[beq_eq_false_iff_ne];refine aR hx ?_;refine aR hy ?_;exact RB e
  refine jf c ?_;have ri:=jL I.3 i;have' rj:_:=jL I.3 j;have fR:x<par.length:=RC hx ri hi;have dc:y<par.length:=RD hy ri rj hi hj;have cy:x≠y:=λq=>beq_eq_false_iff_ne.mp c (q▸rfl);have px:par.getD x 0=x:=by
   rcases(show x=root par i\/x=root par j by exact HN hx) with e | e
   ·exact ae e (zq I.3 i)
   ·exact ae e (zq I.3 j)
  have py:par.getD y 0=y:=by
   rcases(show y=root par i\/y=root par j by exact HO hy) with e | e
   ·exact ae e (zq I.3 i)
   ·exact ae e (zq I.3 j)
  have v1:k2 L.u=some (.is (zd 348 L.ud)):=bt _ _ u1;w_fin;refine jK ?_;w_fin;o_unpack jc;w_fin;refine ao (JY (r:=.u) u3 (HP hy dc hl) (df dc small) ?_);o_reads;have' n1:_:=zU u2 u3 (by intro e;injection e);have w2:=(zb S.u (.list (vs.set y (.int (x:Nat) t3))) n1).trans u2;have w3:=za S.u L.pa (.list (vs.set y (.int (x:Nat) t3)));have w5:=(zb S.u (.list (vs.set y (.int (x:Nat) t3))) (Ne.symm o9)).trans u5;have w9:=(zb S.u (.list (vs.set y (.int (x:Nat) t3))) (Ne.symm pe)).trans u9;generalize upd S.u L.pa (.list (vs.set y (.int (x:Nat) t3)))=w at w2 w3 w5 w9 |-;w_fin;refine jg (Gp lt (i:=x) (HQ hx fR dz)) λax xs a1 a2 a3=>?_;refine jg (Gp lt (i:=y) (HP hy dc dz)) λay ys b1 b2 b3=>?_;o_unpack yp;w_fin;refine ao (zm (v:=.ref ax) (by w_left) (by refine ae Lf ?_;refine ae a1 ?_;rfl) ?_ (df fR small));o_unpack G3;w_fin;o_unpack yp;w_fin;refine ao (zm (v:=.ref ay) (by w_left) (by refine ae Lf ?_;refine ae b1 ?_;rfl) ?_ (df dc small));w_fin;have lx:=a3.length;have' ly:_:=b3.length;rw[List.length_map]at lx ly;refine ao (GI (r:=.l) a2 (gl b2) ?_ ?_ ?_)
  ·have' this:_:=I.iJ fR px;exact z9 lx this rfl
  ·have' this:_:=I.iJ dc py;exact z9 ly this rfl
  o_reads;w_fin;o_unpack JH;o_unpack jS;w_fin;refine zN ?_;w_fin;refine ze (Kq _ _) λc3 k3 aV DA ZZ=>?_;w_fin;refine ao (jR (r:=.u) w9 (RF n9 small rfl) ?_);o_reads;w_fin;refine zN ?_;w_fin;refine ze (Kq _ _) λc4 k4 aG LK ZZ=>?_;w_fin;have' x2:_:=(zb w (.list (ms++[.ref c3])) (zU w2 w9 (by intro e;injection e))).trans w2;have x3:=(zb w (.list (ms++[.ref c3])) pe).trans w3;have' x5:_:=(zb w (.list (ms++[.ref c3])) rG).trans w5;have' x9:_:=za w L.ma (.list (ms++[.ref c3]));have aP:=Mp.le_trans bt (Mp.le_trans aV aG);refine⟨_,St.le_refl _,h2 x y c4 k4 _ _ t3 t4 e hx.symm hy.symm aP LK ⟨aP _ _ u1,x2,⟨_,x3,?_⟩,⟨as,x5,u6,?_,?_⟩,⟨_,x9,?_⟩,o9,pe,rG⟩⟩
  ·exact zep u4 dc
  ·exact ae Vn lt.1
  ·intro q b hb;have eM:ax=b↔q=x:=by
    constructor
    ·intro e;subst e;have' h1:_:=(Kb.mp hb);have' h2:_:=(Kb.mp a1);refine aB h1 λh3 h4=>?_;refine aB h2 λh5 h6=>?_;exact(Mx (by have' this:_:=lt.1;exact RG h3 this dz) u6).mp (hb.trans a1.symm)
    ·intro e;subst e;rw[a1]at hb;exact Option.some.inj hb
   rw[ye _ _ _ _ (HQ hx fR dz)];by_cases e:q=x
   ·refine ae (if_pos e) ?_;obtain rfl:=eM.mpr e;refine⟨_,za _ _ _,?_⟩;refine ae K2 ?_;exact IntsAre.append a3 b3
   ·refine ae (if_neg e) ?_;refine zt (lt.2 q b hb) λzs z1 z2=>?_;exact⟨zs,(zb _ _ (λe'=>e (eM.mp e'.symm))).trans z1,z2⟩
  ·refine ae Ki ?_;refine ae Vn ?_;refine ae Kj ?_;have' this:_:=xq (x:=x) py cy dc;exact RH n9 this
end
section
set_option genSizeOf false
set_option genInjectivity false
variable {B:Bs} {A:Around} {S:St} {L:UL} {par:List Nat} {aj:List (List Nat)}
theorem zad{l₁ l₂:List Int}(h:l₁.Perm l₂)(h1:l₁.Pairwise (·<=·))(h2:l₂.Pairwise (·<=·)):l₁=l₂ :=
 h.eq_of_pairwise (λa b ZZ ZZ x y=>Int.le_antisymm x y) h1 h2
theorem Gq(n:Nat)(p:Nat->Bool):(((List.range n).filter p).map Int.ofNat).Pairwise (·<=·):=by
 refine List.Pairwise.map _ (λa b (h:a<=b)=>Mq.mpr h) ((List.Pairwise.filter p) ?_);exact List.pairwise_le_range
noncomputable def jh(par:List Nat)(i:Nat):List Nat:=(List.range par.length).filter λj=>root par j == root par i
noncomputable def zK(par:List Nat):List Nat:=(List.range par.length).filter λj=>par.getD j 0 == j
theorem QY(R:zC 2 A)(U:UR L S.k S.u S.l par aj)(I:UI par aj)(hi:i<par.length)(h:∀c k' out,S.k.le k'->k' c=some (.list out)->IntsAre out ((jh par i).map Int.ofNat)->Q (.ref c) (S.to .k k')):V B A S (call (.ref 319) [.ref L.u,.int i t]) Q:=by
 refine zL (f:=319) (binds:=[("self",.ref L.u),("a",.int i t)]) (n:=1) (by delta Bs.K;k_is) (by kernel_rfl) R rfl (by rfl) (by kernel_rfl) ?_;intro A' env R' en;dsimp only at en;have' U0:_:=U;obtain⟨u1,u2,⟨vs,u3,u4⟩,⟨as,u5,u6,lt⟩,⟨ms,u9,n9⟩,o9,pe,rG⟩:=U;have' small:_:=I.2;have' dz:_:=I.1;have rl:=jL I.3 i;have hr:root par i<par.length:=wo rl hi;w_fin;o_unpack y8;o_unpack yp;o_unpack yZ;refine ao (gD R' U0 I hi λt1=>?_);w_fin;refine jg (Gp lt (i:=root par i) (HS rl dz hi)) λax xs a1 a2 a3=>?_;refine ao (zm (v:=.ref ax) (by w_left) (by refine ae Lf ?_;refine ae a1 ?_;rfl) ?_ (df (K1 rl hi) small));w_fin;have' lx:_:=a3.length;rw[List.length_map]at lx;have' ll:_:=I.iJ hr (zq I.3 i);refine ao (gT (r:=.k) (gl a2) a3 (RJ lx ll rfl) λc out bJ aH hI hp hs=>?_);have' cC:S.k c=none:=aH .k;have' e:bJ=(jh par i).map Int.ofNat:=zad (hp.trans ((I.4 _ hr (zq I.3 i)).map _)) hs (Gq _ _);subst e;w_means;exact⟨_,St.le_refl _,h c _ out (Mp.av cC) (za _ _ _) hI⟩
theorem QZ(R:zC 1 A)(U:UR L S.k S.u S.l par aj)(I:UI par aj)(h:∀c k' out,S.k.le k'->k' c=some (.list out)->IntsAre out ((zK par).map Int.ofNat)->Q (.ref c) (S.to .k k')):V B A S (call (.ref 324) [.ref L.u]) Q:=by
 refine zL (f:=324) (binds:=[("self",.ref L.u)]) (n:=0) (by delta Bs.K;k_is) (by kernel_rfl) R rfl (by rfl) (by kernel_rfl) ?_;intro A' env R' en;dsimp only at en;have' U0:_:=U;obtain⟨u1,u2,⟨vs,u3,u4⟩,⟨as,u5,u6,lt⟩,⟨ms,u9,n9⟩,o9,pe,rG⟩:=U;have small:=I.2;have hl:=Za u4;w_fin
 let Inv1:(Addr × Tok × Tok × Tok)->Nat->St->List Value->Prop:=λj i S' l=>∃k',A4 (S'=S.to .k k') (S.k.le k') (k' j.1=some (.is (yb par.length j.2.1 j.2.2.1 j.2.2.2))) (IntsAre l (((List.range i).filter λj=>par.getD j 0 == j).map Int.ofNat))
 refine zG .k (λj:Addr × Tok × Tok × Tok=>(ja B j.1 par.length j.2.1 j.2.2.1 j.2.2.2 (CN n9 small rfl)).src) [("self",.ref L.u)]
  Inv1 en (by kernel_rfl) ⟨by decide,rfl,trivial⟩ R'.3 (λZZ=>by refine(?_:par.length<=_);exact CN n9 small rfl) (zY (λj:Addr × Tok × Tok × Tok=>ja B j.1 par.length j.2.1 j.2.2.1 j.2.2.2 (CN n9 small rfl)) ?_) (λj env2 bq=>zr _ bq (by rfl) (.inr (by rfl))) ?_ ?_ ?_ ?_
 ·w_fin;o_unpack qP;o_unpack yo;o_unpack jc;refine ao (zI (by w_left) (JS hl small) λt=>?_);refine ae hl ?_;w_fin;refine ao (ql λa k' u v cu hk aH=>?_);exact⟨(a,u,t,v),rfl,gk hk,rfl,k',rfl,cu,hk,.nil⟩
 ·intro j i S' l bZ;refine q7 bZ λk' bo cu hk hI=>?_;obtain rfl:=bo;exact gk hk
 ·intro j i S' vs' bg iC;refine zJ iC λcA v ZZ cj=>?_;obtain rfl:=cA;obtain rfl:=cj;exact Vs.Sub.set rfl
 ·intro j env2 bq i S' l vs' bg aC eV;refine q7 eV λk' dy cu hk hI=>?_;obtain rfl:=dy;intro ml;refine zJ ml λeC v DB fc=>?_;obtain rfl:=eC;obtain⟨t,rfl⟩:=DB;obtain rfl:=fc;have aA:i<par.length:=aC;refine aB (jk u4 aA) λt2 By=>?_;have' v1:k' L.u=some (.is (zd 348 L.ud)):=cu _ _ u1;dsimp only[jA,St.to,zi];w_fin;o_unpack jc;refine ao (zm (by w_left) By ?_ (df aA small));w_fin;refine ao (xb ?_);refine zc ?_;simp only[Inv1];refine ae Vl ?_;rewrite [List.filter_append];refine ae K2 ?_;by_cases e:par.getD i 0=i
  ·have' c:(((par.getD i 0:Nat):Int) == ((i:Nat):Int))=true:=by refine ae e ?_;exact if_pos rfl
   refine z7 c ?_;w_fin;refine⟨Vs.Sub.refl _,k',rfl,cu,hk,IntsAre.append hI ?_⟩;have' c2:[i].filter (λj=>par.getD j 0 == j)=[i]:=by
    exact ae (List.filter_cons_of_pos (by simpa using e)) rfl
   refine ae c2 ?_;exact .cons _ t .nil
  ·have' c:(((par.getD i 0:Nat):Int) == ((i:Nat):Int))=false:=by
    rw[beq_eq_false_iff_ne];exact XA e
   refine jf c ?_;have' c2:[i].filter (λj=>par.getD j 0 == j)=[]:=by
    exact ae (List.filter_cons_of_neg (by simpa using e)) rfl
   refine ae c2 ?_;exact⟨Vs.Sub.refl _,k',rfl,cu,hk,by simpa using hI⟩
 ·intro j S' l D mz;refine q7 mz λk' iK cu hk hI=>?_;obtain rfl:=iK;intro aH;have' cC:k' D=none:=aH .k;w_means;exact⟨_,St.le_refl _,h D _ l (Mp.le_trans cu (Mp.av cC)) (za _ _ _) hI⟩
end
section
set_option genSizeOf false
set_option genInjectivity false
variable {B:Bs} {A:Around} {S:St}
theorem zcH{x:Str}{k:Nat}{c:Nat}(hc:x.cps[k]? = some c)(hz:k<2 ^ 62)(h:∀t',Q (.str ⟨#[c]⟩ t') S)(hs:subscripted slice false (.str x t) (.int k u)=operate [.str x t,.int k u] (getItem (.str x t) (.int k u)):=by with_unfolding_all rfl):V B A S (subscriptTail value slice (.str x t) (.int k u)) Q:=λX s o =>
 tail_any (typeIs_str s x t) slot_str_getitem.lookup (PyProof.Rows.getItem_str (i:=(k:Int)) (c:=c) (by simp only[Bool.or_eq_false_iff,decide_eq_false_iff_not];exact⟨Int.not_lt.mpr Cw,Int.not_le.mpr (oV hz)⟩) (ae (C2 (n:=x.length) (Array.getElem?_eq_some_iff.mp hc).1) hc) ⟨S,o.toks _,h _⟩) hs
noncomputable def xt(x:Str):Prop:=∃c,c∈[97,98,99,102,103]/\x=⟨#[c]⟩
theorem xt.facts(h:xt x):(x != Str.ofString "")=true/\x.cps.all (· < 128)=true/\x.cps.size=1/\Txt.isspace x=false/\(!(Builtin.Str.occurrences (Str.ofString "()[]{},:") x 0 (Str.ofString "()[]{},:").length 1).isEmpty)=false/\(x == Str.ofString "?")=false:=by
 refine zV h λc hc bR=>?_;obtain rfl:=bR;simp only[List.mem_cons,List.mem_nil_iff,or_false]at hc;rcases hc with rfl | rfl | rfl | rfl | rfl <;> exact⟨by decide +kernel,by decide +kernel,by decide +kernel,by decide +kernel,by decide +kernel,by decide +kernel⟩
theorem xt.sign{x:Str}(h:xt x){i:Nat}{c:Nat}(hc:x.cps[i]? = some c):(⟨#[c]⟩:Str)=x/\i=0:=by
 refine zV h λd hd bo=>?_;obtain rfl:=bo;cases i with
 | zero=>simp at hc;subst hc;exact⟨rfl,rfl⟩
 | succ i=>simp at hc
theorem zbd(R:zC 1 A)(hx:xt x)(h:∀k',S.k.le k'->Q (.bool true) (S.to .k k')):V B A S (call (.ref 159) [.str x t]) Q:=by
 refine zL (f:=159) (binds:=[("text",.str x t)]) (n:=0) (by delta Bs.K;k_is) (by kernel_rfl) R rfl (by rfl) (by kernel_rfl) ?_;intro A' env R' en;dsimp only at en;obtain⟨f1,f2,f3,f4,f5,f6⟩:=hx.facts;w_fin;refine zlM ?_;w_fin;refine ao (zel ?_);refine zc ?_;refine z7 f1 ?_;refine IZ ?_;w_fin
 let Inv1:(Unit)->Nat->St->List Value->Prop:=λj i S' l=>S'=S/\l=[]
 refine zG .k (λj:Unit=>(LA B x t f2).src) [] Inv1 en (by kernel_rfl) trivial R'.3 (λZZ=>by refine(?_:x.cps.size<=_);exact RK f3) (zY (λj:Unit=>LA B x t f2) ?_) (λj env2 bq=>zr _ bq (by rfl) (.inr (by rfl))) ?_ ?_ ?_ ?_
 ·w_fin;exact⟨(),rfl,trivial,rfl,rfl,rfl⟩
 ·rintro j i S' l _;trivial
 ·intro j i S' vs' bg iC;refine zJ iC λcA v ZZ cj=>?_;obtain rfl:=cA;obtain rfl:=cj;exact Vs.Sub.set rfl
 ·rintro j env2 bq i S' l vs' bg aC ⟨rfl,rfl⟩ eV;refine zJ eV λdy v zn8 eC=>?_;obtain rfl:=dy;obtain⟨c,u,hc,rfl⟩:=zn8;obtain rfl:=eC;obtain⟨e1,rfl⟩:=hx.sign hc;refine ae e1 ?_;dsimp only[jA,zi];refine yA ?_;refine qB ?_;w_fin;refine ao (zaa ?_);refine qx ?_;w_fin;refine ao (zcF ?_);refine zc ?_;refine jf f4 ?_;refine yA ?_;w_fin;refine ao (zem ?_);refine zc ?_;refine jf f5 ?_;refine qg ?_;refine jf rfl ?_;exact⟨Vs.Sub.refl _,by simp[Inv1]⟩
 ·rintro j S' l D ⟨rfl,rfl⟩ aH;have' cC:S'.k D=none:=aH .k;w_fin;refine jM ?_;w_fin;refine ya (Kt _) λc1 k1 aU lC ZZ=>?_;w_fin;dsimp only[St.put,St.to,St.get]at aU |-;refine ao (Qw (by have' this:_:=R'.u;exact Ox this) (gk (aU _ _ (za _ _ _))) (gk lC) ?_);w_means;exact⟨_,St.le_refl _,h k1 (Mp.le_trans (Mp.av cC) aU)⟩
theorem Gr{x:Str}(R:zC 2 A)(hx:xt x)(h:∀k',S.k.le k'->Q .none (S.to .k k')):V B A S (call (.ref 197) [.ref L,.str x t]) Q:=by
 refine zL (f:=197) (binds:=[("self",.ref L),("op",.str x t)]) (n:=1) (by delta Bs.K;k_is) (by kernel_rfl) R rfl (by rfl) (by kernel_rfl) ?_;intro A' env R' en;dsimp only at en;obtain⟨f1,f2,f3,f4,f5,f6⟩:=hx.facts;w_fin;refine yA ?_;refine xj ?_;refine qB ?_;w_fin;o_unpack zeh;refine ao (zbd R' hx λk' cu=>?_);refine zc ?_;refine jf rfl ?_;refine yA ?_;w_fin;refine zV hx λc hc iH=>?_;obtain rfl:=iH;refine ao (zcH (k:=0) (c:=c) (by rfl) (by decide) λt'=>?_);w_fin;refine ao (G9 ?_);refine zc ?_;refine jf f6 ?_;refine qg ?_;refine jf rfl ?_;w_fin;exact⟨_,St.le_refl _,h k' cu⟩
end
section
set_option genSizeOf false
set_option genInjectivity false
section
variable {B:Bs} {A:Around} {own:Bool} {env:Env} {vs:Vs} {S:St}
theorem zcI{T id:String}(hl:typeLookup (.type T) "__getitem__"=pure (some (.builtin id)))(h:wpAny (model prog w) A (eval value env) (λo s₁=>wpAny (model prog w) A (eval (.Slice lower upper none p) env) (λi s₂=>s₂.TypeIs o T/\wpAny (model prog w) A (getItem o i) Q E s₂) E s₁) E s):
  wpAny (model prog w) A (eval (.Subscript value (.Slice lower upper none p) pos) env) Q E s:=by
 rw[eval_Subscript];refine wpAny_bind (wpAny_mono h (λo s₁ h₁=>wpAny_bind (wpAny_holding (wpAny_mono h₁ (λi s₂ h₂=>wpAny_bind (wpAny_standAt ?_)) λZZ ZZ x=>x))) λZZ ZZ x=>x);have' fin:wpAny (model prog w) A (operate [i,o] (getItem o i)) (λr s₃=>wpAny (model prog w) A (letTemporaryGo value o r >>= λZZ=>pure r) Q E s₃) E s₂ :=
  wpAny_operating (wpAny_mono h₂.2 (λr s₃ h₃=>wpAny_bind (wpAny_letTemporaryGo (wpAny_pure h₃))) λZZ ZZ x=>x)
 first
  | (refine wpAny_bind ?_;refine ae (getitemInPython_of_ne h₂.1.not_modules) ?_;refine wpAny_bind (wpAny_specialOf h₂.1 hl ?_);first | exact wpAny_pure (wpAny_bind fin) | exact wpAny_bind (wpAny_pure (wpAny_bind fin)) | exact wpAny_bind fin)
  | (refine wpAny_bind (wpAny_specialOf h₂.1 hl ?_);first | exact wpAny_bind (wpAny_pure (wpAny_bind fin)) | exact wpAny_bind fin)
theorem yl(rx:1<=a)(h:W B A own env vs S (eval value env) (λov vs S=>∃t xs,ov = .ref t/\S.has t (.tup xs)/\a<=xs.length/\xs.length<=1000000/\∀c k',S.k.le k'->k' c=some (.tup (xs.drop a))->S.no c->Q (.ref c) vs (S.to .k k'))):
  W B A own env vs S (eval (.Subscript value (.Slice (some (.Constant (.int a) k p1)) none none p) pos) env) Q:=λX s o f=>by
 refine zcI slot_tuple_getitem.lookup (wpAny_mono (h X s o f) (λov s₁ q=>?_) λZZ ZZ e=>e);obtain⟨bf,S₁,k₁,f₁,t,xs,rfl,hx,hlen,hz,q⟩:=q;refine wpAny_Slice (wpAny_evalPart_some (wpAny_Constant_int (wpAny_evalPart_none (wpAny_evalPart_none ?_))));have T:IsTup (s₁.heap.push { cls:=.type "slice",data:=.fields #[.int a s₁.toks,.none,.none] }) t xs.toArray:=(k₁.tup hx).keeps λb ob e=>Ke _ e;refine⟨T.typeIs,getItem_tuple_from (a:=a) (u:=s₁.toks) T ⟨_,Kl _ rfl,rfl,rfl⟩ rx (ae Kd hlen) ?_ (ae Kd (ae sizeLine_eq (zS hz rfl)))⟩;have bT:s₁.heap.objs.size<=(s₁.heap.push { cls:=.type "slice",data:=.fields #[.int a s₁.toks,.none,.none] }).objs.size:=by rw[Heap.size_push];exact Lq _
 refine bE (lW.new (r:=.k) (c':=.tup (xs.drop a)) k₁ f₁ bT (qO k₁ bT) (h':=(s₁.heap.push { cls:=.type "slice",data:=.fields #[.int a s₁.toks,.none,.none] }).push { cls:=.type "tuple",data:=.seq (xs.toArray.toList.drop a).toArray }) (λb ob e=>Ke _ (Ke _ e)) ⟨_,Kl _ rfl,0,by simp⟩ (s₁.toks+1)) λk₃ f₃=>?_;have aH:=(k₁.above bT).1;exact⟨bf,_,k₃,f₃,q _ _ (Mp.av (aH .k)) (za _ _ _) aH⟩
end
variable {B:Bs} {A:Around} {S:St}
structure BL where
 b:Addr
 bd:Addr
 no:Addr
 nu:Addr
 we:Addr
 de:Addr
noncomputable abbrev Nd:=Str × List Nat
noncomputable def bL(x:Nd):NK:=(x.1,x.2.map Int.ofNat)
noncomputable def BR(B:Bs)(L:BL)(k b:Mp)(nds:List Nd):Prop:=A7
 (k L.b=some (.is (zd 266 L.bd)))
 (b L.bd=some (.attrs [("nodes",.ref L.no),("numbers",.ref L.nu),("weights",.ref L.we),("depths",.ref L.de)]))
 (∃as:List Addr,A3 (b L.no=some (.list (as.map .ref))) (as.length=nds.length) (∀(i:Nat) (a:Addr) (nd:Nd),as[i]? = some a->nds[i]? = some nd->jH k a nd.1 (nd.2.map Int.ofNat)))
 (E2 λes xs=>A4 (b L.nu=some (.dict es)) (j2 B k es xs) (xs.map (·.1)=nds.map bL) (∀(i:Nat) (z:NK × Addr × Value),xs[i]? = some z->∃t,z.2.2 = .int i t))
 (E2 λws l=>A3 (b L.we=some (.list ws)) (IntsAre ws l) (l.length=nds.length))
 (E2 λws l=>A3 (b L.de=some (.list ws)) (IntsAre ws l) (l.length=nds.length))
 (L.no≠L.we/\L.no≠L.de/\L.we≠L.de)
noncomputable def BI(nds:List Nd):Prop:=A5
 (nds.length<=12)
 (∀nd∈nds,xt nd.1)
 (∀(i:Nat) (nd:Nd),nds[i]? = some nd->∀j∈nd.2,j<i)
 (∀nd∈nds,nd.2.length<=2)
 (nds.Nodup)
theorem BR.mono(h:BR B L k b nds)(le:k.le k'):BR B L k' b nds :=
 ⟨le _ _ h.1,h.2,(by refine gL h.3 λas h1 h2 h3=>?_;exact⟨as,h1,h2,λi a nd e1 e2=>(h3 i a nd e1 e2).mono le⟩),(by obtain⟨es,xs,h1,h2,h3,h4⟩:=h.4;exact⟨es,xs,h1,h2.mono le,h3,h4⟩),h.5,h.6,h.7⟩
variable {L:BL} {nds:List Nd}
theorem BR.node{k b:Mp}(h:BR B L k b nds){i:Nat}{nd:Nd}(hi:nds[i]? = some nd):∃(as:List Addr) (a:Addr) (t:Tok) (r:List Value),b L.no=some (.list (as.map .ref))/\as[i]? = some a/\k a=some (.tup (.str nd.1 t::r))/\IntsAre r (nd.2.map Int.ofNat):=by
 refine gL h.3 λas h1 h2 h3=>?_;have hl:i<as.length:=ae h2 ((Kb.mp hi).1);refine gs (h3 i _ nd (Ka hl) hi) λvs e t r bR hr=>?_;obtain rfl:=bR;exact⟨as,_,t,r,h1,Ka hl,e,hr⟩
theorem zbe(R:zC 1 A)(U:BR B L S.k S.b nds)(I:BI nds)(h:∀t,Q (.int nds.length t) S):V B A S (call (.ref 185) [.ref L.b]) Q:=by
 refine zL (f:=185) (binds:=[("self",.ref L.b)]) (n:=0) (by delta Bs.K;k_is) (by kernel_rfl) R rfl (by rfl) (by kernel_rfl) ?_;intro A' env R' en;dsimp only at en;obtain⟨u1,u2,⟨as,u3,u4,u5⟩,_,_,_⟩:=U;have' small:_:=I.1;w_fin;o_unpack yo;o_unpack jW;refine ao (zI (by w_left) (by rw[List.length_map];exact JS u4 small) λt=>?_);rewrite [List.length_map];refine ae u4 ?_;w_means;exact⟨S,St.le_refl _,h t⟩
theorem zeq{i:Nat}(R:zC 1 A)(U:BR B L S.k S.b nds)(I:BI nds)(hi:nds[i]? = some nd)(h:∀t,Q (.str nd.1 t) S):V B A S (call (.ref 223) [.ref L.b,.int i t]) Q:=by
 refine zL (f:=223) (binds:=[("self",.ref L.b),("n",.int i t)]) (n:=0) (by delta Bs.K;k_is) (by kernel_rfl) R rfl (by rfl) (by kernel_rfl) ?_;intro A' env R' en;dsimp only at en;refine Zo (U.node hi) λas a t1 r v1 v2 v3 v4=>?_;obtain⟨u1,u2,_,_,_,_⟩:=U;have' small:_:=I.1;have' hl:_:=(Kb.mp hi).1;w_fin;o_unpack jW;refine ao (zm (v:=.ref a) (by w_left) (by refine ae Lf ?_;refine ae v2 ?_;rfl) ?_ (df hl small));w_fin;refine ao (qq (k:=0) (v:=.str nd.1 t1) (by w_left) rfl ?_ (by decide));w_means;exact⟨S,St.le_refl _,h t1⟩
theorem zbf{i:Nat}(R:zC 1 A)(U:BR B L S.k S.b nds)(I:BI nds)(hi:nds[i]? = some nd)(h:∀c k' r,S.k.le k'->k' c=some (.tup r)->IntsAre r (nd.2.map Int.ofNat)->Q (.ref c) (S.to .k k')):V B A S (call (.ref 230) [.ref L.b,.int i t]) Q:=by
 refine zL (f:=230) (binds:=[("self",.ref L.b),("n",.int i t)]) (n:=0) (by delta Bs.K;k_is) (by kernel_rfl) R rfl (by rfl) (by kernel_rfl) ?_;intro A' env R' en;dsimp only at en;refine Zo (U.node hi) λas a t1 r v1 v2 v3 v4=>?_;obtain⟨u1,u2,_,_,_,_⟩:=U;have' small:_:=I.1;have' hl:_:=(Kb.mp hi).1;have' h2:_:=I.4 nd (Kx hi);have' lr:_:=v4.length;rw[List.length_map]at lr;refine yq ?_;intro _ _ _ _;refine GF ?_;refine yl (by decide) ?_;w_fin;o_unpack jW;refine ao (zm (v:=.ref a) (by w_left) (by refine ae Lf ?_;refine ae v2 ?_;rfl) ?_ (df hl small));refine⟨a,_,rfl,gk v3,(Kv _),ae Lj (RL lr h2 rfl),λc k' cu hk aH=>?_⟩;w_means;exact⟨_,St.le_refl _,h c k' r cu hk v4⟩
end
section
set_option genSizeOf false
set_option genInjectivity false
variable {B:Bs} {A:Around} {S:St} {L:BL} {nds:List Nd}
theorem y9{a b:Addr}{xs ys:List Value}{Q:Value->St->Prop}(ha:S.k a=some (.tup xs))(hb:S.k b=some (.tup ys))(hz:xs.length<=1000000)(aS:ys.length<=1000000)(h:∀c k',S.k.le k'->k' c=some (.tup (xs++ys))->Q (.ref c) (S.to .k k')):V B A S (binaryOp .Add (.ref a) (.ref b)) Q:=λX s o=>by
 refine aB (o.uk (gk ha)) λn e=>?_;refine aB (o.uk (gk hb)) λm e2=>?_;by_cases h1:xs=[]
 ·subst h1;refine concat_meets ⟨_,e,rfl⟩ ⟨_,e2,rfl⟩ noFill_tuple_add seq_tuple_add F.slot_tuple_add F.entry_tuple_add (F.args_tuple_add_2 _ _) (AutoSeq1.tuple___add___tuple_tuple_0 a _ n b _ m rfl) ⟨e,e2,⟨S,o.toks _,h b S.k (Mp.le_refl _) (by simpa using hb)⟩⟩
 ·by_cases h2:ys=[]
  ·subst h2;refine concat_meets ⟨_,e,rfl⟩ ⟨_,e2,rfl⟩ noFill_tuple_add seq_tuple_add F.slot_tuple_add F.entry_tuple_add (F.args_tuple_add_2 _ _) (AutoSeq1.tuple___add___tuple_tuple_1 a _ n b _ m (by simpa using h1) rfl) ⟨e,e2,⟨S,o.toks _,h a S.k (Mp.le_refl _) (by simpa using ha)⟩⟩
  ·refine P.add_tuple e e2 (by simpa using h1) (by simpa using h2) ⟨_,o.new (r:=.k) (c':=.tup (xs++ys)) o.lt.1 o.lt.2 (λb ob q e=>Ke _ q) ⟨_,Kl _ rfl,0,?_⟩ _ rfl rfl rfl,h s.heap.objs.size _ (Mp.eS _ _ (o.lt.1 .k)) (za _ _ _)⟩ (ae Kd (ae Kd (ae sizeLine_eq (Hs hz aS))));simp
theorem zer{a b:Int}{t u:Tok}{Q:Value->St->Prop}(h:Q (.bool (decide (a<=b))) S):V B A S (compareOp .LtE (.int a t) (.int b u)) Q:=λX s o=>PyProof.Rows.le_int ⟨S,o,h⟩
theorem jT{α:Type}{own:Bool}{env:Env}{vs vs':Vs}{m:Sem α}{Q:α->Vs->St->Prop}(hs:Vs.Sub vs' vs)(h:W B A own env vs' S m Q):W B A own env vs S m Q:=λX s o f=>h X s o (f.mono hs)
theorem LL(h:bL a=bL b):a=b:=by
 unfold bL at h;obtain⟨x,ns⟩:=a;obtain⟨y,ms⟩:=b;injection h with h1 h2;have' eA:ns=ms:=(Va (λa b e=>Int.ofNat.inj e)).mp h2;dsimp only at h1;exact ae h1 (ae eA rfl)
theorem zkl{k:Mp}{es:List DictEntry}{xs:List (NK × Addr × Value)}(D:j2 B k es xs)(hk:xs.map (·.1)=nds.map bL)(hv:∀(i:Nat) (z:NK × Addr × Value),xs[i]? = some z->∃t,z.2.2 = .int i t){nd:Nd}{i:Nat}(hi:nds[i]? = some nd):∃t,j6 xs (bL nd)=some (.int i t):=by
 have h1:(xs.map (·.1))[i]? = some (bL nd):=by refine ae hk ?_;refine ae Lf ?_;refine ae hi ?_;rfl
 rw[List.getElem?_map]at h1;cases e:xs[i]? with
 | none=>rw[e]at h1;injection h1
 | some z =>
  rw[e]at h1;refine aB (hv i z e) λt ht=>?_;obtain⟨key,b,v⟩:=z;obtain rfl:=Option.some.inj h1;obtain rfl:=ht;exact⟨t,Yq D.3 (Kx e)⟩
theorem zes{k:Mp}{es:List DictEntry}{xs:List (NK × Addr × Value)}(hk:xs.map (·.1)=nds.map bL){nd:Nd}(hn:nd∉nds):j6 xs (bL nd)=none:=by
 cases e:j6 xs (bL nd) with
 | none=>rfl
 | some v =>
  refine aB (Xk e) λb hb=>?_;have' h1:bL nd∈nds.map bL:=aR hk (Kr.mpr ⟨_,hb,rfl⟩);refine zt (Kr.mp h1) λbK h2 h3=>?_;exact absurd (LL h3▸h2) hn
theorem zcJ{x:Str}{t0:Tok}{tk:Addr}{r:List Value}{ns:List Nat}{Q:Value->St->Prop}(R:zC 3 A)(U:BR B L S.k S.b nds)(I:BI nds)(hx:xt x)(hr:S.k tk=some (.tup r))(hI:IntsAre r (ns.map Int.ofNat))(h2:ns.length<=2)(aC:∀j∈ns,j<nds.length)(hold:∀(i:Nat) t k',nds[i]? = some (x,ns)->S.k.le k'->Q (.int i t) (S.to .k k'))(eY:(x,ns)∉nds->nds.length<12/\∀t k' b',S.k.le k'->BR B L k' b' (nds++[(x,ns)])->Q (.int nds.length t) ⟨k',b',S.u,S.l,S.h,S.v,S.p,S.m⟩):V B A S (call (.ref 190) [.ref L.b,.str x t0,.ref tk]) Q:=by
 refine zL (f:=190) (binds:=[("self",.ref L.b),("op",.str x t0),("kids",.ref tk)]) (n:=2) (by delta Bs.K;k_is) (by kernel_rfl) R rfl (by rfl) (by kernel_rfl) ?_;intro A' env R' en;dsimp only at en;have lr:=hI.length;rw[List.length_map]at lr;have' small:_:=I.1;w_fin;refine zN ?_;w_fin;refine ze (Kv _) λc0 k0 bU fU ZZ=>?_;w_fin;o_unpack xp;refine ao (GJ (gk (bU _ _ hr)) ?_);w_fin;refine ao (y9 fU (bU _ _ hr) (Kv _) (z9 lr h2 rfl) λc k1 aU hc=>?_);dsimp only[St.put,St.to,St.get]at aU hc |-;have DC:=Mp.le_trans bU aU;have bB:jH k1 c x (ns.map Int.ofNat):=⟨_,hc,t0,r,rfl,hI⟩;have' U1:_:=U.mono DC;clear U;obtain⟨u1,u2,⟨as,u3,u4,u5⟩,⟨es,xs,v1,v2,v3,v4⟩,⟨ws,wl,w1,w2,w3⟩,⟨ds,dl,d1,d2,d3⟩,ne1,ne2,ne3⟩:=U1;w_fin;o_unpack qE;refine ao (zkg (by have' this:_:=R'.2;refine(?_:_<9900);exact CO this) (by w_left) v2 bB ?_);refine zc ?_;by_cases hm:(x,ns)∈nds
 ·refine aB (K9.mp hm) λi eZ=>?_;refine aB (zkl v2 v3 v4 eZ) λt ht=>?_;have' c1:(j6 xs (x,ns.map Int.ofNat)).isSome=true:=ae (show(x,ns.map Int.ofNat)=bL (x,ns) from rfl) (ae ht rfl);refine z7 c1 ?_;w_fin;o_unpack qE;refine ao (zed (by have' this:_:=R'.2;refine(?_:_<9900);exact CO this) (by w_left) v2 bB ht ?_);w_means;exact⟨_,St.le_refl _,hold i t k1 eZ DC⟩
 ·have hn:=zes (k:=k1) (es:=es) v3 hm;have' c1:(j6 xs (x,ns.map Int.ofNat)).isSome=false:=ae (show(x,ns.map Int.ofNat)=bL (x,ns) from rfl) (ae hn rfl);refine jf c1 ?_;refine bE (eY hm) λbY eY=>?_;w_fin;o_unpack YS;refine ao (Gr R' hx λk2 bt=>?_);w_fin
  let Inv1:(Addr)->Nat->Vs->St->Prop:=λj i vs' S'=>∃k3,A4 (S'=S.to .k k3) (k2.le k3) (k3 j=some (.tup r)) (∃w,vs'=([("self",.ref L.b),("op",.str x t0),("kids",.ref tk),("node",.ref c)]:Vs)++w/\(w=[]\/∃v,w=[(("kid":Str),v)]))
  refine qi (λj:Addr=>(jp B j r).src) Inv1 R'.3 (zY (λj:Addr=>jp B j r) ?_) (λj=>zr _ en (by rfl) (.inl rfl)) ?_ ?_ ?_
  ·refine yl (by decide) ?_;w_fin;refine⟨c,_,rfl,gk (bt _ _ hc),(Kv _),by simp;exact z9 lr h2 rfl,λc3 k3 aV dA aH=>?_⟩;exact⟨c3,rfl,gk dA,k3,rfl,aV,dA,[],rfl,.inl rfl⟩
  ·intro j i vs' S' bZ;refine q7 bZ λk3 bo aV dA ZZ=>?_;obtain rfl:=bo;exact gk dA
  ·intro j i vs' S' cW bg aQ iC;refine gr iC λk3 cA aV dA w cj hw=>?_;obtain rfl:=cA;obtain rfl:=cj;intro eV;refine zJ eV λdy v hv iI=>?_;obtain rfl:=dy;obtain rfl:=iI;have aA:i<ns.length:=by have' this:i<r.length:=aQ;exact jx this lr
   refine aB (jk hI aA) λt3 ht3=>?_;have' ev:v = .int (ns.getD i 0:Nat) t3:=Option.some.inj (hv.symm.trans ht3);subst ev;have' cO:ns.getD i 0<nds.length:=aC _ (by refine ae Kh ?_;refine ae (Ka aA) ?_;exact Ky aA);have' ew:zi (([("self",.ref L.b),("op",.str x t0),("kids",.ref tk),("node",.ref c)]:Vs)++w) "kid" (.int (ns.getD i 0:Nat) t3)=([("self",.ref L.b),("op",.str x t0),("kids",.ref tk),("node",.ref c),("kid",.int (ns.getD i 0:Nat) t3)]:Vs):=by
    rcases hw with rfl | ⟨v,rfl⟩ <;> rfl
   refine ae ew ?_;have' BD:_:=aV _ _ (bt _ _ u1);w_fin;refine xj ?_;refine Jf ?_;w_fin;refine ao (zer ?_);refine zc ?_;have' c2:decide ((0:Int)<=((ns.getD i 0:Nat):Int))=true:=(Vx _);refine z7 c2 ?_;w_fin;o_unpack yo;o_unpack jW;refine ao (zI (by w_left) (by rw[List.length_map];exact JS u4 (K5 bY)) λt4=>?_);rewrite [List.length_map];refine ae u4 ?_;refine ao (xa ?_);refine zc ?_;have' c3:decide (((ns.getD i 0:Nat):Int)<((nds.length:Nat):Int))=true:=decide_eq_true (CC cO);refine ae c3 ?_;refine jf rfl ?_;w_fin;exact⟨k3,rfl,aV,dA,[(("kid":Str),.int (ns.getD i 0:Nat) t3)],rfl,.inr ⟨_,rfl⟩⟩
  ·intro j vs' S' zi9;refine gr zi9 λk3 iH aV dA w fc hw=>?_;obtain rfl:=iH;obtain rfl:=fc;have mA:=Mp.le_trans bt aV;have' v2':_:=v2.mono mA;have' DE:_:=bB.mono mA;have BD:=mA _ _ u1;have fR:xs.length=nds.length:=by have' this:_:=congrArg List.length v3;rwa [Vm,Vm]at this
   w_means;refine jT (vs':=[("self",.ref L.b),("op",.str x t0),("kids",.ref tk),("node",.ref c)]) (λy v h=>?_) ?_
   ·rcases hw with rfl | ⟨v,rfl⟩
    ·exact h
    ·exact Vs.Sub.set (x:="kid") (v:=v) rfl y _ h
   w_fin;refine jK ?_;w_fin;o_unpack yo;o_unpack jW;refine ao (zI (by w_left) (by rw[List.length_map];exact JS u4 (K5 bY)) λt5=>?_);rewrite [List.length_map];refine ae u4 ?_;w_fin;o_unpack qE;refine ao (zeg (r:=.b) (by have' this:_:=R'.2;refine(?_:_<9900);exact CO this) v1 v2' DE hn (Ks (Kc fR) (K5 (Mf bY (by decide)))) λes' D'=>?_);o_reads;have m2:=(zb S.b (.dict es') (zU u2 v1 (by intro e;injection e))).trans u2;have m3:=(zb S.b (.dict es') (zU u3 v1 (by intro e;injection e))).trans u3;have' mw:_:=(zb S.b (.dict es') (zU w1 v1 (by intro e;injection e))).trans w1;have' md:_:=(zb S.b (.dict es') (zU d1 v1 (by intro e;injection e))).trans d1;have mn:=za S.b L.nu (.dict es');generalize upd S.b L.nu (.dict es')=m at m2 m3 mw md mn |-;w_fin;o_unpack jW;o_unpack jS;refine ao (jR (r:=.b) m3 (by rw[List.length_map];exact Cx u4 bY) ?_);o_reads;have p2:=(zb m (.list (as.map .ref++[.ref c])) (zU m2 m3 (by intro e;injection e))).trans m2;have pn:=(zb m (.list (as.map .ref++[.ref c])) (zU mn m3 (by intro e;injection e))).trans mn;have pw:=(zb m (.list (as.map .ref++[.ref c])) (Ne.symm ne1)).trans mw;have' pd:_:=(zb m (.list (as.map .ref++[.ref c])) (Ne.symm ne2)).trans md;have' p3:_:=za m L.no (.list (as.map .ref++[.ref c]));generalize upd m L.no (.list (as.map .ref++[.ref c]))=p at p2 pn pw pd p3 |-;w_fin;o_unpack x8;o_unpack jS;o_unpack zlJ
   let Inv2:(Addr)->Nat->St->List Value->Prop:=λj i S' l=>∃k4,A4 (S'=⟨k4,p,S.u,S.l,S.h,S.v,S.p,S.m⟩) (k3.le k4) (k4 j=some (.tup r)) (∃ls,IntsAre l ls/\l.length=i)
   refine zG .k (λj:Addr=>(jp B j r).src) [("self",.ref L.b)]
    Inv2 en (by kernel_rfl) ⟨by decide,rfl,trivial⟩ R'.3 (λZZ=>by refine(?_:r.length<=_);exact z9 lr h2 rfl) (zY (λj:Addr=>jp B j r) ?_) (λj env2 bq=>zr _ bq (by rfl) (.inr (by rfl))) ?_ ?_ ?_ ?_
   ·refine yl (by decide) ?_;w_fin;refine⟨c,_,rfl,gk (mA _ _ hc),(Kv _),by simp;exact z9 lr h2 rfl,λc4 k4 aG bz aH=>?_⟩;exact⟨c4,rfl,gk bz,rfl,k4,rfl,aG,bz,[],.nil,rfl⟩
   ·intro j i S' l mz;refine q7 mz λk4 iK aG bz hl=>?_;obtain rfl:=iK;exact gk bz
   ·intro j i S' vs' bg DF;refine zJ DF λmB v ZZ mC=>?_;obtain rfl:=mB;obtain rfl:=mC;exact Vs.Sub.set rfl
   ·intro j env2 bq i S' l vs' bg aQ rH;refine gr rH λk4 iL aG bz ls hl lD=>?_;obtain rfl:=iL;intro rI;refine zJ rI λmE v hv mF=>?_;obtain rfl:=mE;obtain rfl:=mF;have aA:i<ns.length:=by have' this:i<r.length:=aQ;exact jx this lr
    refine aB (jk hI aA) λt6 iM=>?_;have' ev:v = .int (ns.getD i 0:Nat) t6:=Option.some.inj (hv.symm.trans iM);subst ev;have cO:ns.getD i 0<nds.length:=aC _ (by refine ae Kh ?_;refine ae (Ka aA) ?_;exact Ky aA);have' DG:_:=aG _ _ BD;obtain⟨w0,tJ⟩:∃y,wl[ns.getD i 0]? = some y:=⟨_,Ka (aM cO w3)⟩;refine aB (w2.get _ w0 tJ) λt7 DH=>?_;dsimp only[jA,zi];refine z7 rfl ?_;w_fin;o_unpack x8;refine ao (zm (by w_left) DH ?_ (df cO (K5 bY)));exact⟨Vs.Sub.refl _,k4,rfl,aG,bz,_,IntsAre.append hl (.cons _ t7 .nil),ae Ki (ae Kj (ae lD rfl))⟩
   ·intro j S' l D rJ;refine gr rJ λk4 mG aG bz ls hl lD=>?_;obtain rfl:=mG;intro aH;have' bC:k4 D=none:=aH .k;o_reads;have aP:k3.le (upd k4 D (.list l)):=Mp.le_trans aG (Mp.av bC);have' hD:_:=za k4 D (.list l);generalize upd k4 D (.list l)=k5 at aP hD |-;w_fin;refine ao (WK R'.3 (gk hD) hl λsm t8=>?_);w_fin;refine ao (yO λt9=>?_);w_fin;have' wsl:_:=w2.length;refine ao (jR (r:=.b) pw (Cx (wsl.trans w3) bY) ?_);o_reads;have q2:=(zb p (.list (ws++[.int (1+sm) t9])) (zU p2 pw (by intro e;injection e))).trans p2;have qn:=(zb p (.list (ws++[.int (1+sm) t9])) (zU pn pw (by intro e;injection e))).trans pn;have' q3:_:=(zb p (.list (ws++[.int (1+sm) t9])) ne1).trans p3;have qd:=(zb p (.list (ws++[.int (1+sm) t9])) (Ne.symm ne3)).trans pd;have' qw:_:=za p L.we (.list (ws++[.int (1+sm) t9]));generalize upd p L.we (.list (ws++[.int (1+sm) t9]))=q at q2 qn q3 qd qw |-;have u15:=aP _ _ BD;w_fin;o_unpack gV;o_unpack jS;o_unpack KZ;have uX:=Mp.le_trans mA aP
    let iN:(Addr)->Nat->St->List Value->Prop:=λj i S' l=>∃k4,A4 (S'=⟨k4,q,S.u,S.l,S.h,S.v,S.p,S.m⟩) (k5.le k4) (k4 j=some (.tup r)) (∃ls,IntsAre l ls/\l.length=i)
    refine zG .k (λj:Addr=>(jp B j r).src) [("self",.ref L.b)]
     iN en (by kernel_rfl) ⟨by decide,rfl,trivial⟩ R'.3 (λZZ=>by refine(?_:r.length<=_);exact z9 lr h2 rfl) (zY (λj:Addr=>jp B j r) ?_) (λj env2 bq=>zr _ bq (by rfl) (.inr (by rfl))) ?_ ?_ ?_ ?_
    ·refine yl (by decide) ?_;w_fin;refine⟨c,_,rfl,gk (uX _ _ hc),(Kv _),by simp;exact z9 lr h2 rfl,λc4 k4 aG bz aH=>?_⟩;exact⟨c4,rfl,gk bz,rfl,k4,rfl,aG,bz,[],.nil,rfl⟩
    ·intro j i S' l rK;refine q7 rK λk4 rL aG bz hl=>?_;obtain rfl:=rL;exact gk bz
    ·intro j i S' vs' bg DJ;refine zJ DJ λrM v ZZ rN=>?_;obtain rfl:=rM;obtain rfl:=rN;exact Vs.Sub.set rfl
    ·intro j env2 bq i S' l vs' bg aQ DL;refine gr DL λk4 DM aG bz ls hl lD=>?_;obtain rfl:=DM;intro DN;refine zJ DN λDP v hv DQ=>?_;obtain rfl:=DP;obtain rfl:=DQ;have aA:i<ns.length:=by have' this:i<r.length:=aQ;exact jx this lr
     refine aB (jk hI aA) λt6 iM=>?_;have' ev:v = .int (ns.getD i 0:Nat) t6:=Option.some.inj (hv.symm.trans iM);subst ev;have cO:ns.getD i 0<nds.length:=aC _ (by refine ae Kh ?_;refine ae (Ka aA) ?_;exact Ky aA);have' DG:_:=aG _ _ u15;obtain⟨w0,tJ⟩:∃y,dl[ns.getD i 0]? = some y:=⟨_,Ka (aM cO d3)⟩;refine aB (d2.get _ w0 tJ) λt7 DH=>?_;dsimp only[jA,zi];refine z7 rfl ?_;w_fin;o_unpack gV;refine ao (zm (by w_left) DH ?_ (df cO (K5 bY)));exact⟨Vs.Sub.refl _,k4,rfl,aG,bz,_,IntsAre.append hl (.cons _ t7 .nil),ae Ki (ae Kj (ae lD rfl))⟩
    ·intro j S' l D DR;refine gr DR λk4 DS aG bz ls hl lD=>?_;obtain rfl:=DS;intro aH;have' bC:k4 D=none:=aH .k;o_reads;have aZ:k5.le (upd k4 D (.list l)):=Mp.le_trans aG (Mp.av bC);have' hD:_:=za k4 D (.list l);generalize upd k4 D (.list l)=k6 at aZ hD |-;w_fin;refine jM ?_;w_fin;rename_i tz;refine ya (Kv _) λc6 k7 bO iO ZZ=>?_;w_fin;dsimp only[St.put,St.to,St.get]at bO iO |-;have' lrr:l.length=r.length:=lD;refine ao (JZ (r:=.k) (gk (bO _ _ hD)) (gk iO) (JV lrr lr h2 rfl) (Kv _) λc8 uY=>?_);have' uZ:k7 c8=none:=uY .k;o_reads;obtain⟨k8,ey,lE,hg⟩:∃k8,k7.le k8/\k8 c8=some (.list (l++[.int 0 tz]))/\k8=upd k7 c8 (.list (l++[.int 0 tz])):=⟨_,Mp.av uZ,za _ _ _,rfl⟩;refine aR hg ?_;w_fin;refine ao (WL R'.3 (gk lE) (IntsAre.append hl (.cons _ _ .nil)) (by simp) λmx t12=>?_);w_fin;refine ao (yO λkr=>?_);w_fin;have' dsl:_:=d2.length;refine ao (jR (r:=.b) qd (Cx (dsl.trans d3) bY) ?_);o_reads;have r2:=(zb q (.list (ds++[.int (1+mx) kr])) (zU q2 qd (by intro e;injection e))).trans q2;have' rn:_:=(zb q (.list (ds++[.int (1+mx) kr])) (zU qn qd (by intro e;injection e))).trans qn;have r3:=(zb q (.list (ds++[.int (1+mx) kr])) ne2).trans q3;have' LN:_:=(zb q (.list (ds++[.int (1+mx) kr])) ne3).trans qw;have' rd:_:=za q L.de (.list (ds++[.int (1+mx) kr]));generalize upd q L.de (.list (ds++[.int (1+mx) kr]))=q' at r2 rn r3 LN rd |-;have cL:=Mp.le_trans uX (Mp.le_trans aZ (Mp.le_trans bO ey));have u19:=cL _ _ u1;w_fin;o_unpack yo;o_unpack jW;refine ao (zI (by w_left) (by simp;exact bla (Nat.succ_lt_succ (u4▸bY)) (by decide)) λt14=>?_);w_fin;refine ao (Zs λt15=>?_);have' e14:((((as.map Value.ref++[Value.ref c]).length:Nat):Int) - 1)=((nds.length:Nat):Int):=by simp;exact RM u4
     refine ae e14 ?_;w_means;refine⟨_,St.le_refl _,eY t15 _ _ (Mp.le_trans DC cL) ⟨u19,r2,⟨as++[c],ae K2 r3,by simp[u4],?_⟩,⟨es',_,rn,D'.mono (Mp.le_trans aP (Mp.le_trans aZ (Mp.le_trans bO ey))),?_,?_⟩,⟨_,_,LN,IntsAre.append w2 (.cons _ t9 .nil),by simp[w3]⟩,⟨_,_,rd,IntsAre.append d2 (.cons _ kr .nil),by simp[d3]⟩,ne1,ne2,ne3⟩⟩
     ·intro i a nd ha hb;by_cases hi:i<nds.length
      ·rw[List.getElem?_append_left (aM hi u4)]at ha;rw[List.getElem?_append_left hi]at hb;exact(u5 i a nd ha hb).mono cL
      ·have kq:=(Kb.mp hb).1;rw[List.length_append,List.length_singleton]at kq;have' rO:i=nds.length:=qZ kq hi;subst rO;rw[List.getElem?_append_right (Nat.le_refl _),Nat.sub_self]at hb;rw[<-u4,List.getElem?_append_right (Nat.le_refl _),Nat.sub_self]at ha;obtain rfl:=Option.some.inj hb;obtain rfl:=Option.some.inj ha;exact bB.mono cL
     ·exact ae K2 (ae K2 (ae v3 rfl))
     ·intro i z hz;by_cases hi:i<xs.length
      ·rw[List.getElem?_append_left hi]at hz;exact v4 i z hz
      ·have kq:=(Kb.mp hz).1;rw[List.length_append,List.length_singleton]at kq;have' rO:i=xs.length:=Zk kq fR hi;subst rO;rw[List.getElem?_append_right (Nat.le_refl _),Nat.sub_self]at hz;obtain rfl:=Option.some.inj hz;refine ae fR ?_;exact⟨t5,rfl⟩
end
section
noncomputable def zF(f:Nat->Nat)(nd:Nd):Nd:=(nd.1,nd.2.map f)
inductive Cg (nds:List Nd) (ps:List (Nat × Nat)):Nat->Nat->Prop
 | refl (i:Nat):Cg nds ps i i
 | symm {i j:Nat}:Cg nds ps i j->Cg nds ps j i
 | trans {i j k:Nat}:Cg nds ps i j->Cg nds ps j k->Cg nds ps i k
 | pair {a b:Nat}:(a,b)∈ps->Cg nds ps a b
 | mH {i j:Nat} {x:Str} {ks js:List Nat}:nds[i]? = some (x,ks)->nds[j]? = some (x,js)->ks.length=js.length->(∀q,q<ks.length->Cg nds ps (ks.getD q 0) (js.getD q 0))->Cg nds ps i j
theorem Cg.mono{nds bW:List Nd}{ps bM:List (Nat × Nat)}(hn:∀(i:Nat) nd,nds[i]? = some nd->bW[i]? = some nd)(hp:∀p∈ps,p∈bM){i j:Nat}(h:Cg nds ps i j):Cg bW bM i j:=by
 induction h with
 | refl i=>exact .refl i
 | symm _ ih=>exact .symm ih
 | trans _ _ DT DU=>exact .trans DT DU
 | pair h=>exact .pair (hp _ h)
 | mH h1 h2 h3 _ ih=>exact .mH (hn _ _ h1) (hn _ _ h2) h3 ih
noncomputable def yW(nds:List Nd)(ps:List (Nat × Nat))(f:Nat->Nat):Prop:=And
 (∀a b,(a,b)∈ps->f a=f b)
 (∀(i j:Nat) a b,nds[i]? = some a->nds[j]? = some b->zF f a=zF f b->f i=f j)
theorem gm{f:Nat->Nat}{ks js:List Nat}(hl:ks.length=js.length)(h:∀q,q<ks.length->f (ks.getD q 0)=f (js.getD q 0)):ks.map f=js.map f:=by
 refine M2 (by simp[hl]) λq h1 h2=>?_;rw[List.getElem_map,List.getElem_map];rw[List.length_map]at h1 h2;have' this:_:=h q h1;rw[List.getD_eq_getElem?_getD,List.getD_eq_getElem?_getD,List.getElem?_eq_getElem h1,List.getElem?_eq_getElem h2]at this;exact this
theorem qH{f:Nat->Nat}{ks js:List Nat}(h:ks.map f=js.map f):ks.length=js.length/\∀q,q<ks.length->f (ks.getD q 0)=f (js.getD q 0):=by
 have hl:ks.length=js.length:=by have' this:_:=congrArg List.length h;simpa using this
 refine⟨hl,λq hq=>?_⟩;have' h1:(ks.map f)[q]? = (js.map f)[q]?:=ae h rfl;rw[List.getElem?_map,List.getElem?_map,List.getElem?_eq_getElem hq,List.getElem?_eq_getElem (hl▸hq)]at h1;refine ae Kh ?_;refine ae Kh ?_;refine ae (Ka hq) ?_;refine ae (Ka (hl▸hq)) ?_;simpa using h1
theorem yW.mI{nds:List Nd}{ps:List (Nat × Nat)}{f:Nat->Nat}(C:yW nds ps f){i j:Nat}(h:Cg nds ps i j):f i=f j:=by
 induction h with
 | refl i=>rfl
 | symm _ ih=>exact ih.symm
 | trans _ _ DT DU=>exact DT.trans DU
 | pair h=>exact C.1 _ _ h
 | @mH i j x ks js h1 h2 h3 _ ih =>
  refine C.2 i j _ _ h1 h2 ?_;refine(?_:(x,ks.map f)=(x,js.map f));exact ae (gm h3 ih) rfl
noncomputable def Rep(nds:List Nd)(ps:List (Nat × Nat))(f:Nat->Nat):Prop:=A3
 (∀i,f i<=i)
 (∀i,f (f i)=f i)
 (∀i j,i<nds.length->j<nds.length->f i=f j->Cg nds ps i j)
theorem Rep.unique{nds:List Nd}{ps:List (Nat × Nat)}{f g:Nat->Nat}(F:Rep nds ps f)(CF:yW nds ps f)(G:Rep nds ps g)(CG:yW nds ps g){i:Nat}(hi:i<nds.length):f i=g i:=by
 have h1:f i<=g i:=by
  have' hg:_:=G.1 i;have' this:_:=G.3 (g i) i (wo hg hi) hi (G.2 i);have' this:_:=CF.mI this;have' this:_:=F.1 (g i);exact RN ‹_› this
 have' h2:g i<=f i:=by
  have' hf:_:=F.1 i;have' this:_:=F.3 (f i) i (wo hf hi) hi (F.2 i);have' this:_:=CG.mI this;have' this:_:=G.1 (f i);exact RO h1 ‹_› this
 exact RP h1 h2
/-! values -/
inductive qp (nds:List Nd) (f:Nat->Nat) (tb:Str->List Int) (fm:Nat->List Int):Nat->Int->Prop
 | table {n:Nat} {nd:Nd} {x:Int}:nds[n]? = some nd->x∈tb nd.1->qp nds f tb fm (f n) x
 | dT {n:Nat} {x:Int}:n<nds.length->x∈fm n->qp nds f tb fm (f n) x
 | u0 {n k:Nat} {nd:Nd} {x:Int}:nds[n]? = some nd->k∈nd.2->qp nds f tb fm (f k) x->qp nds f tb fm (f n) x
noncomputable def ve(nds:List Nd)(f:Nat->Nat)(tb:Str->List Int)(fm:Nat->List Int)(v:Nat->List Int):Prop:=A3
 (∀(n:Nat) nd x,nds[n]? = some nd->x∈tb nd.1->x∈v (f n))
 (∀n x,n<nds.length->x∈fm n->x∈v (f n))
 (∀(n:Nat) nd k x,nds[n]? = some nd->k∈nd.2->x∈v (f k)->x∈v (f n))
theorem ve.told{nds:List Nd}{f:Nat->Nat}{tb:Str->List Int}{fm:Nat->List Int}{v:Nat->List Int}(F:ve nds f tb fm v){c:Nat}{x:Int}(h:qp nds f tb fm c x):x∈v c:=by
 induction h with
 | table h1 h2=>exact F.1 _ _ _ h1 h2
 | dT h1 h2=>exact F.2 _ _ h1 h2
 | u0 h1 h2 _ ih=>exact F.3 _ _ _ _ h1 h2 ih
theorem wm:∀{l m:List Int},l.Pairwise (· < ·)->m.Pairwise (· < ·)->(∀x,x∈l↔x∈m)->l=m
 | [],[],_,_,_=>rfl
 | [],b::m,_,_,h=>absurd ((h b).mpr (.head _)) Lr
 | a::l,[],_,_,h=>absurd ((h a).mp (.head _)) Lr
 | a::l,b::m,hl,hm,h=>by
  rw[List.pairwise_cons]at hl hm;have' e:a=b:=by
   have' h1:a∈b::m:=(h a).mp (.head _);have' h2:b∈a::l:=(h b).mpr (.head _);rcases Kw.mp h1 with e | h1
   ·exact e
   ·rcases Kw.mp h2 with e | h2
    ·exact e.symm
    ·have' this:_:=hl.1 b h2;have' this:_:=hm.1 a h1;exact RQ ‹_› this
  subst e
  congr 1
  refine wm hl.2 hm.2 λx=>?_;constructor
  ·intro hx;rcases Kw.mp ((h x).mp (.tail _ hx)) with e | q
   ·have' this:_:=hl.1 x hx;exact absurd e.symm (Int.ne_of_lt this)
   ·exact q
  ·intro hx;rcases Kw.mp ((h x).mpr (.tail _ hx)) with e | q
   ·have' this:_:=hm.1 x hx;exact absurd e.symm (Int.ne_of_lt this)
   ·exact q
theorem Xo{l ns:List Int}(hp:l.Perm ns)(hn:ns.Nodup)(hs:l.Pairwise (·<=·)):l.Pairwise (· < ·):=by
 have' oW:l.Nodup:=hp.nodup_iff.mpr hn;have' this:_:=hs.and oW;exact this.imp λh=>by have' h1:_:=h.1;have' h2:_:=h.2;exact RR h
end
section
noncomputable def j7(nds:List Nd):List Nat:=nds.flatMap (·.2)
noncomputable def qa{α:Type}(f:Nat->α)(x:Nat)(v:α):Nat->α:=λi=>if i=x then v else f i
theorem zz(f:Nat->α)(x:Nat)(v:α):qa f x v x=v:=if_pos rfl
theorem ju{α:Type}(f:Nat->α){x i:Nat}(v:α)(h:i≠x):qa f x v i=f i:=if_neg h
noncomputable def HI(nds:List Nd)(ps:List (Nat × Nat))(par:List Nat)(aj:List (List Nat))(kn:List (Nd × Nat))(us:Nat->List Nat)(wt:List Nat):Prop:=IE
 (BI nds)
 (UI par aj)
 (par.length=nds.length)
 (∀i j,i<nds.length->j<nds.length->root par i=root par j->Cg nds ps i j)
 (∀a b,(a,b)∈ps->a<nds.length/\b<nds.length/\root par a=root par b)
 (∀nd m,(nd,m)∈kn->(∀k∈nd.2,k<nds.length)/\∃bK,nds[m]? = some bK/\zF (root par) nd=zF (root par) bK)
 (∀(n:Nat) nd,nds[n]? = some nd->n∉wt->∃m,(zF (root par) nd,m)∈kn/\root par m=root par n)
 ((kn.map (·.1)).Nodup)
 (∀(n:Nat) nd,nds[n]? = some nd->∀k∈nd.2,n∈us (root par k))
 (∀c,par.getD c 0=c->c<nds.length->∀n∈us c,n<nds.length)
 (∀c,par.getD c 0=c->c<nds.length->(us c).length<=(j7 nds).countP λk=>root par k == c)
 (∀n∈wt,n<nds.length)
 (kn.length+wt.length+24*j4 par<=25*nds.length)
variable {nds:List Nd} {ps:List (Nat × Nat)} {par:List Nat} {aj:List (List Nat)} {kn:List (Nd × Nat)} {us:Nat->List Nat} {wt:List Nat}
theorem Z9(h:∀i,f (f i)=f i)(nd:Nd):zF f (zF f nd)=zF f nd:=by
 unfold zF;simp[Function.comp_def,h]
theorem zbg(I:BI nds):(j7 nds).length<=24:=by
 have' key:∀l:List Nd,(∀nd∈l,nd.2.length<=2)->(j7 l).length<=2*l.length:=by
  intro l;induction l with
  | nil=>intro _;exact Kz _
  | cons a r ih =>
   intro h;have' h1:_:=h a (.head _);have' h2:_:=ih λnd hn=>h nd (.tail _ hn);unfold j7 at h2 |-;refine ae List.flatMap_cons ?_;refine ae Ki ?_;refine ae Lj ?_;exact RT h1 h2
 have' this:_:=key nds I.4;have' this:_:=I.1;exact RU ‹_› this
theorem HI.fV(H:HI nds ps par aj kn us wt){c:Nat}(hc:par.getD c 0=c)(hl:c<nds.length):(us c).length<=24:=by
 have' h1:_:=H.11 c hc hl;have' h2:_:=zbg H.1;have' h3:(j7 nds).countP (λk=>root par k == c)<=(j7 nds).length:=List.countP_le_length;exact RV h1 h3 h2
theorem HI.mJ(H:HI nds ps par aj kn us wt):kn.length<=300/\wt.length<=300:=by
 have' h1:_:=H.13;have' h2:_:=H.1.1;exact RW h1 h2
theorem HI.bj(H:HI nds ps par aj kn us wt){i:Nat}(hi:i<nds.length):root par i<nds.length:=by
 have' this:_:=jL H.2.3 i;exact wo this hi
theorem HI.cD(H:HI nds ps par aj kn us wt){n:Nat}{nd:Nd}(hn:nds[n]? = some nd){k:Nat}(hk:k∈nd.2):k<nds.length:=by
 have' h1:_:=H.1.3 n nd hn k hk;have' h2:_:=(Kb.mp hn).1;exact Zj h1 h2
theorem HI.alike(H:HI nds ps par aj kn us wt){n m:Nat}{nd bK:Nd}(hn:nds[n]? = some nd)(hm:nds[m]? = some bK)(h:zF (root par) nd=zF (root par) bK):Cg nds ps n m:=by
 obtain⟨x,ks⟩:=nd;obtain⟨y,js⟩:=bK;unfold zF at h;injection h with h1 h2;dsimp only at h1 h2;subst h1;refine bE (qH h2) λhl hq=>?_;refine .mH hn hm hl λq aC=>?_;have' m1:ks.getD q 0∈ks:=by refine ae Kh ?_;refine ae (Ka aC) ?_;exact Ky aC
 have' m2:js.getD q 0∈js:=by refine ae Kh ?_;refine ae (Ka (hl▸aC)) ?_;exact Ky (hl▸aC)
 exact H.4 _ _ (H.cD hn m1) (H.cD hm m2) (hq q aC)
theorem LO{kn:List (Nd × Nat)}(hn:(kn.map (·.1)).Nodup){nd:Nd}{m m':Nat}(h1:(nd,m)∈kn)(h2:(nd,m')∈kn):m=m':=by
 induction kn with
 | nil=>cases h1
 | cons e r ih =>
  rw[List.map_cons,List.nodup_cons]at hn;rcases Kw.mp h1 with e1 | h1 <;> rcases Kw.mp h2 with e2 | h2
  ·rw[<-e2]at e1;injection e1
  ·exact absurd (Kr.mpr ⟨_,h2,by refine aR e1 ?_;rfl⟩) hn.1
  ·exact absurd (Kr.mpr ⟨_,h1,by refine aR e2 ?_;rfl⟩) hn.1
  ·exact ih hn.2 h1 h2
theorem HI.closed(H:HI nds ps par aj kn us []):yW nds ps (root par) :=
 ⟨(λa b h=>(H.5 a b h).2.2),
 (λi j a b hi hj h=>by
  refine zt (H.7 i a hi Lr) λm h1 h2=>?_;refine zt (H.7 j b hj Lr) λm' h3 h4=>?_;rw[h]at h1;have' this:_:=LO H.8 h1 h3;subst this;exact aR h2 (aR h4 rfl))⟩
theorem HI.rep(H:HI nds ps par aj kn us wt):Rep nds ps (root par) :=
 ⟨(jL H.2.3),
 (yV H.2.3),
 (H.4)⟩
theorem HI.merge{bM:List (Nat × Nat)}(H:HI nds ps par aj kn us wt){a b x y:Nat}(ha:a<nds.length)(hb:b<nds.length)(aO:root par a≠root par b)(hx:x=min (root par a) (root par b))(hy:y=max (root par a) (root par b))(lF:∀p∈ps,p∈bM)(rP:∀p∈bM,p∈ps\/p=(a,b))(hc:Cg nds bM a b):
  HI nds bM (par.set y x) (aj.set x (aj.getD x []++aj.getD y [])) kn (qa us x (us x++us y)) (wt++us y):=by
 have ra:=jL H.2.3 a;have rb:=jL H.2.3 b;have hlen:=H.3;have cy:x<y:=XE hx hy aO;have dc:y<par.length:=RX ha hb hy ra rb hlen;have fR:x<par.length:=RY cy hlen dc;have px:par.getD x 0=x:=by
  rcases(show x=root par a\/x=root par b by exact g7 hx) with e | e
  ·exact ae e (zq H.2.3 a)
  ·exact ae e (zq H.2.3 b)
 have py:par.getD y 0=y:=by
  rcases(show y=root par a\/y=root par b by exact g6 hy) with e | e
  ·exact ae e (zq H.2.3 a)
  ·exact ae e (zq H.2.3 b)
 have rs:∀i,root (par.set y x) i=if root par i=y then x else root par i:=w7 H.2.3 px py cy dc
 have mono:∀i j,root par i=root par j->root (par.set y x) i=root (par.set y x) j:=λi j e=>by rewrite [rs,rs];refine ae e ?_;rfl
 have up:∀{i j},Cg nds ps i j->Cg nds bM i j:=λh=>h.mono (λZZ ZZ e=>e) lF;have' DV:Cg nds bM y x:=by
  have' c1:Cg nds bM (root par a) a:=up (H.4 _ _ (wo ra ha) ha (yV H.2.3 a));have' c2:Cg nds bM (root par b) b:=up (H.4 _ _ (wo rb hb) hb (yV H.2.3 b));have c3:Cg nds bM (root par a) (root par b):=c1.trans (hc.trans c2.symm);by_cases e:root par a<root par b
  ·have e1:x=root par a:=RZ hx e;have' e2:y=root par b:=R0 hy e hx e1;exact ae e1 (ae e2 c3.symm)
  ·have e1:x=root par b:=R1 hx e;have' e2:y=root par a:=R2 hy aO hx e1 e;exact ae e1 (ae e2 c3)
 have dU:∀i,i<nds.length->Cg nds bM i (root (par.set y x) i):=λi hi=>by
  have c1:Cg nds bM i (root par i):=up (H.4 _ _ hi (H.bj hi) (yV H.2.3 i).symm);rw[rs];split
  ·rename_i e;rw[e]at c1;exact c1.trans DV
  ·exact c1
 have' vf:∀nd bK:Nd,zF (root par) nd=zF (root par) bK->zF (root (par.set y x)) nd=zF (root (par.set y x)) bK:=λnd bK e=>by
  unfold zF at e |-;injection e with e1 e2;refine bE (qH e2) λhl hq=>?_;exact ae e1 (ae (gm hl λq aC=>mono _ _ (hq q aC)) rfl)
 refine⟨H.1,H.2.merge px py cy dc,ae Vn H.3,?_,?_,?_,?_,H.8,?_,?_,?_,?_,?_⟩
 ·intro i j hi hj e;have' c1:_:=dU i hi;have' c2:_:=dU j hj;rw[e]at c1;exact c1.trans c2.symm
 ·intro p q hm;rcases rP _ hm with h | h
  ·refine JR (H.5 p q h) λh1 h2 h3=>?_;exact⟨h1,h2,mono _ _ h3⟩
  ·cases (h);refine⟨ha,hb,?_⟩;rw[rs,rs];by_cases e:root par a=y
   ·refine ae (if_pos e) ?_;have' this:root par b≠y:=λe'=>aO (e.trans e'.symm);exact ae (if_neg this) (HU cy hx e)
   ·refine ae (if_neg e) ?_;have:root par b=y:=HV hy e;exact ae (if_pos this) (R3 cy hx this)
 ·intro nd m hm;refine GB (H.6 nd m hm) λh0 bK h1 h2=>?_;exact⟨h0,bK,h1,vf _ _ h2⟩
 ·intro n nd hn hw;rw[List.mem_append,not_or]at hw;refine zt (H.7 n nd hn hw.1) λm h1 h2=>?_;have' hk:zF (root (par.set y x)) nd=zF (root par) nd:=by
   unfold zF
   congr 1
   refine Mk λk hk=>?_;rw[rs,if_neg];intro e;have' this:_:=H.9 n nd hn k hk;rw[e]at this;exact hw.2 this
  exact⟨m,hk▸h1,mono _ _ h2⟩
 ·intro n nd hn k hk;have h1:=H.9 n nd hn k hk;rw[rs];by_cases e:root par k=y
  ·refine ae (if_pos e) ?_;rw[zz,List.mem_append];rw[e]at h1;exact .inr h1
  ·refine ae (if_neg e) ?_;by_cases e2:root par k=x
   ·refine ae e2 ?_;rw[zz,List.mem_append];rw[e2]at h1;exact .inl h1
   ·exact ae (ju _ _ e2) h1
 ·intro c hc hl n hn;rw[ye _ _ _ _ dc]at hc;have' rQ:c≠y:=λe=>by rw[if_pos e]at hc;exact CM cy hc e
  rw[if_neg rQ]at hc;by_cases e:c=x
  ·rw[e,zz,List.mem_append]at hn;rcases hn with hn | hn
   ·exact H.10 x px (jx fR hlen) n hn
   ·exact H.10 y py (jx dc hlen) n hn
  ·rw[ju _ _ e]at hn;exact H.10 c hc hl n hn
 ·intro c hc hl;rw[ye _ _ _ _ dc]at hc;have rQ:c≠y:=λe=>by rw[if_pos e]at hc;exact CM cy hc e
  rw[if_neg rQ]at hc;by_cases e:c=x
  ·refine ae e ?_;rewrite [zz];refine ae Ki ?_;have' h1:_:=H.11 x px (jx fR hlen);have' h2:_:=H.11 y py (jx dc hlen);have' h3:(j7 nds).countP (λk=>root (par.set y x) k == x)=(j7 nds).countP (λk=>root par k == x)+(j7 nds).countP (λk=>root par k == y):=by
    have' key:∀l:List Nat,l.countP (λk=>root (par.set y x) k == x)=l.countP (λk=>root par k == x)+l.countP (λk=>root par k == y):=by
     intro l;induction l with
     | nil=>rfl
     | cons k r ih =>
      refine ae Md ?_;refine ae Md ?_;refine ae Md ?_;refine ae ih ?_;rw[rs];by_cases e1:root par k=y
      ·have' e2:root par k≠x:=R4 e1 cy;simp[e1,Nat.ne_of_gt cy];exact R5
      ·by_cases e2:root par k=x
       ·simp[e1,e2,Nat.ne_of_lt cy];exact R6
       ·simp[e1,e2]
    exact key _
   exact R7 h1 h2 h3
  ·refine ae (ju _ _ e) ?_;have' h1:_:=H.11 c hc hl;have' h3:(j7 nds).countP (λk=>root (par.set y x) k == c)=(j7 nds).countP (λk=>root par k == c):=Mw λk ZZ=>by
    rw[rs];by_cases e1:root par k=y
    ·simp[e1];exact R8 rQ e
    ·simp[e1]
   exact R9 h1 h3
 ·intro n hn;rcases Ko.mp hn with hn | hn
  ·exact H.12 n hn
  ·exact H.10 y py (jx dc hlen) n hn
 ·have' h1:_:=H.fV py (jx dc hlen);have' h2:_:=H.13;have' h3:_:=xq (x:=x) py (HW cy) dc;refine ae Ki ?_;exact Sd h2 h1 h3
theorem HI.told{bM:List (Nat × Nat)}(H:HI nds ps par aj kn us wt){a b:Nat}(ha:a<nds.length)(hb:b<nds.length)(he:root par a=root par b)(lF:∀p∈ps,p∈bM)(rP:∀p∈bM,p∈ps\/p=(a,b)):HI nds bM par aj kn us wt :=
 ⟨H.1,
 H.2,
 H.3,
 (λi j hi hj e=>(H.4 i j hi hj e).mono (λZZ ZZ e=>e) lF),
 (λp q hm=>by
   rcases rP _ hm with h | h
   ·exact H.5 p q h
   ·injection h with zz1 zz2;obtain rfl:=zz1;obtain rfl:=zz2;exact⟨ha,hb,he⟩),
 H.6,
 H.7,
 H.8,
 H.9,
 H.10,
 H.11,
 H.12,
 H.13⟩
theorem HI.learn{n:Nat}(H:HI nds ps par aj kn us (n::wt))(hn:nds[n]? = some nd)(hk:∀m,(zF (root par) nd,m)∉kn):HI nds ps par aj (kn++[(zF (root par) nd,n)]) us wt :=
 ⟨H.1,
 H.2,
 H.3,
 H.4,
 H.5,
 (λbK m hm=>by
   rcases Ko.mp hm with hm | hm
   ·exact H.6 bK m hm
   ·cases List.mem_singleton.mp hm;refine⟨λk hk=>?_,nd,hn,Z9 (yV H.2.3) nd⟩;refine zV (Kr.mp hk) λj hj bR=>?_;obtain rfl:=bR;exact H.bj (H.cD hn hj)),
 (λm bK hm hw=>by
   by_cases e:m=n
   ·subst e;rw[hn]at hm;obtain rfl:=Option.some.inj hm;exact⟨m,Ko.mpr (.inr (.head _)),rfl⟩
   ·refine zt (H.7 m bK hm (by simp[e,hw])) λq h1 h2=>?_;exact⟨q,Ko.mpr (.inl h1),h2⟩),
 (by
   refine ae K2 ?_;rw[List.nodup_append];refine⟨H.8,(Ll _ _),λx hx y hy e=>?_⟩;rw[List.map_cons,List.map_nil,List.mem_singleton]at hy;subst e;refine zV (Kr.mp hx) λiu h1 h2=>?_;obtain⟨bK,m⟩:=iu;dsimp only at h2;rw[h2,hy]at h1;exact hk m h1),
 H.9,
 H.10,
 H.11,
 (λm hm=>H.12 m (.tail _ hm)),
 (by
   have' this:_:=H.13;refine ae Ki ?_;refine ae Kj ?_;rw[List.length_cons]at this;exact Se this)⟩
theorem HI.vg(H:HI nds ps par aj kn us (n::wt))(hn:nds[n]? = some nd)(hk:(zF (root par) nd,m)∈kn)(he:root par m=root par n):HI nds ps par aj kn us wt :=
 ⟨H.1,
 H.2,
 H.3,
 H.4,
 H.5,
 H.6,
 (λq bK hm hw=>by
   by_cases e:q=n
   ·subst e;rw[hn]at hm;obtain rfl:=Option.some.inj hm;exact⟨m,hk,he⟩
   ·exact H.7 q bK hm (by simp[e,hw])),
 H.8,
 H.9,
 H.10,
 H.11,
 (λq hm=>H.12 q (.tail _ hm)),
 (by
   have' this:_:=H.13;rw[List.length_cons]at this;exact HY this)⟩
theorem HI.vh(H:HI nds ps par aj kn us (n::wt))(hn:nds[n]? = some nd)(hk:(zF (root par) nd,m)∈kn)(he:root par m≠root par n)(hx:x=min (root par m) (root par n))(hy:y=max (root par m) (root par n)):
  HI nds ps (par.set y x) (aj.set x (aj.getD x []++aj.getD y [])) kn (qa us x (us x++us y)) (wt++us y):=by
 refine GB (H.6 _ m hk) λh0 bK h1 h2=>?_;have kJ:=(Kb.mp h1).1;have ku:=(Kb.mp hn).1;rw[Z9 (yV H.2.3)]at h2;have C:=(H.alike hn h1 h2).symm;have M:=H.merge kJ ku he hx hy (λp h=>h) (λp h=>.inl h) C;have' ra:_:=jL H.2.3 m;have rb:=jL H.2.3 n;have' hlen:_:=H.3;have cy:x<y:=XE hx hy he;have' dc:y<par.length:=Sf hy kJ ku ra rb hlen;have' px:par.getD x 0=x:=by
  rcases(show x=root par m\/x=root par n by exact g7 hx) with e | e
  ·exact ae e (zq H.2.3 m)
  ·exact ae e (zq H.2.3 n)
 have' py:par.getD y 0=y:=by
  rcases(show y=root par m\/y=root par n by exact g6 hy) with e | e
  ·exact ae e (zq H.2.3 m)
  ·exact ae e (zq H.2.3 n)
 have rs:∀i,root (par.set y x) i=if root par i=y then x else root par i:=w7 H.2.3 px py cy dc
 exact⟨M.1,
 M.2,
 M.3,
 M.4,
 M.5,
 M.6,
 (λq nq hm hw=>by
   by_cases e:q=n
   ·subst e;rw[hn]at hm;obtain rfl:=Option.some.inj hm;rw[List.mem_append,not_or]at hw;have' hc:zF (root (par.set y x)) nd=zF (root par) nd:=by
     unfold zF
     congr 1
     refine Mk λk hk=>?_;rw[rs,if_neg];intro e;have' this:_:=H.9 q nd hn k hk;rw[e]at this;exact hw.2 this
    refine⟨m,hc▸hk,?_⟩;rw[rs,rs];by_cases e:root par m=y
    ·exact ae (if_pos e) (ae (if_neg (λe'=>he (e.trans e'.symm))) (HU cy hx e))
    ·exact ae (if_neg e) (ae (if_pos (HV hy e)) (Sg hx hy e))
   ·exact M.7 q nq hm (by rw[List.mem_append,not_or]at hw;simp[e,hw.1,hw.2])),
 M.8,
 M.9,
 M.10,
 M.11,
 (λq hm=>M.12 q (.tail _ hm)),
 (by
   have' this:_:=M.13;rw[List.cons_append,List.length_cons]at this;exact HY this)⟩
theorem HI.grow(H:HI nds ps par aj kn us wt){x:Str}{ns:List Nat}{cw:Nat->List Nat}(B':BI (nds++[(x,ns)]))(hz:nds.length<12)(dS:(x,ns)∉nds)(h1:∀c,c<nds.length->(∃k∈ns,root par k=c)->cw c=us c++[nds.length])(h2:∀c,c<nds.length->(¬∃k∈ns,root par k=c)->cw c=us c)(h3:cw nds.length=[]):
  HI (nds++[(x,ns)]) ps (par++[par.length]) (aj++[[par.length]]) kn cw (nds.length::wt):=by
 have hlen:=H.3;have cO:∀k∈ns,k<nds.length:=λk hk=>B'.3 nds.length (x,ns) List.getElem?_concat_length k hk;have ro:∀i,i<nds.length->root (par++[par.length]) i=root par i:=λi hi=>gC H.2.3 (aM hi hlen);have rn:root (par++[par.length]) nds.length=nds.length:=aR hlen (w8 par);have old:∀(i:Nat) nd,nds[i]? = some nd->(nds++[(x,ns)])[i]? = some nd:=λi nd h=>by
  refine ae (Mj (Kb.mp h).1) ?_;exact h
 have split:∀(i:Nat) nd,(nds++[(x,ns)])[i]? = some nd->nds[i]? = some nd\/(i=nds.length/\nd=(x,ns)):=λi nd h=>by
  by_cases e:i<nds.length
  ·rw[List.getElem?_append_left e]at h;exact .inl h
  ·have h4:=(Kb.mp h).1;rw[List.length_append,List.length_singleton]at h4;have' this:i=nds.length:=qZ h4 e;subst this;rw[List.getElem?_append_right (Nat.le_refl _),Nat.sub_self]at h;obtain rfl:=Option.some.inj h;exact .inr ⟨rfl,rfl⟩
 have co:∀nd:Nd,(∀k∈nd.2,k<nds.length)->zF (root (par++[par.length])) nd=zF (root par) nd:=λnd h=>by
  unfold zF
  congr 1
  exact Mk λk hk=>ro k (h k hk)
 have up:∀{i j},Cg nds ps i j->Cg (nds++[(x,ns)]) ps i j:=λh=>h.mono old λZZ e=>e;refine⟨B',H.2.make (CP hlen hz),by simp[hlen],?_,?_,?_,?_,H.8,?_,?_,?_,?_,?_⟩
 ·intro i j hi hj e;rw[List.length_append,List.length_singleton]at hi hj;by_cases ei:i<nds.length
  ·by_cases ej:j<nds.length
   ·rw[ro i ei,ro j ej]at e;exact up (H.4 i j ei ej e)
   ·have' this:j=nds.length:=qZ hj ej;subst this;rw[ro i ei,rn]at e;have' this:_:=jL H.2.3 i;exact absurd (e▸this) (Vq.mpr ei)
  ·have' this:i=nds.length:=qZ hi ei;subst this;by_cases ej:j<nds.length
   ·rw[ro j ej,rn]at e;have' this:_:=jL H.2.3 j;exact absurd (e▸this) (Vq.mpr ej)
   ·have' this:j=nds.length:=qZ hj ej;subst this;exact .refl _
 ·intro a b hm;refine JR (H.5 a b hm) λh4 h5 h6=>?_;refine ae Ki ?_;refine ae Kj ?_;refine ae (ro a h4) ?_;refine ae (ro b h5) ?_;exact⟨by exact xh h4,by exact xh h5,h6⟩
 ·intro nd m hm;refine GB (H.6 nd m hm) λh4 bK h5 h6=>?_;refine⟨λk hk=>by refine ae Ki ?_;refine ae Kj ?_;have' this:_:=h4 k hk;exact xh this,bK,old m bK h5,?_⟩;refine ae (co nd h4) ?_;refine ae (co bK λk hk=>H.cD h5 hk) ?_;exact h6
 ·intro n nd hn hw;rcases split n nd hn with h | ⟨h,_⟩
  ·refine zt (H.7 n nd h λq=>hw (.tail _ q)) λm h5 h6=>?_;refine zJ (H.6 _ m h5) λZZ bK h7 ZZ=>?_;refine⟨m,ae (co nd λk hk=>H.cD h hk) h5,?_⟩;refine ae (ro m (Kb.mp h7).1) ?_;refine ae (ro n (Kb.mp h).1) ?_;exact h6
  ·exact absurd (h▸.head _) hw
 ·intro n nd hn k hk;rcases split n nd hn with h | ⟨rfl,rfl⟩
  ·have kK:=H.cD h hk;have h5:=H.9 n nd h k hk;refine ae (ro k kK) ?_;by_cases e:∃j∈ns,root par j=root par k
   ·exact ae (h1 _ (H.bj kK) e) (Ko.mpr (.inl h5))
   ·exact ae (h2 _ (H.bj kK) e) h5
  ·have kK:=cO k hk;refine ae (ro k kK) ?_;refine ae (h1 _ (H.bj kK) ⟨k,hk,rfl⟩) ?_;exact Ko.mpr (.inr (.head _))
 ·intro c hc hl n hn;rw[List.length_append,List.length_singleton]at hl |-;by_cases e:c<nds.length
  ·rw[zQ _ _ _ (XB hl e hlen)]at hc;by_cases e2:∃j∈ns,root par j=c
   ·rw[h1 _ e e2]at hn;rcases Ko.mp hn with hn | hn
    ·have' this:_:=H.10 c hc e n hn;exact xh this
    ·exact ae (Kf.mp hn) Sh
   ·rw[h2 _ e e2]at hn;have' this:_:=H.10 c hc e n hn;exact xh this
  ·have:c=nds.length:=qZ hl e;rw[this,h3]at hn;cases hn
 ·intro c hc hl;rw[List.length_append,List.length_singleton]at hl;by_cases e:c<nds.length
  ·rw[zQ _ _ _ (XB hl e hlen)]at hc;have h5:=H.11 c hc e;have' h6:(j7 (nds++[(x,ns)])).countP (λk=>root (par++[par.length]) k == c)=(j7 nds).countP (λk=>root par k == c)+ns.countP (λk=>root par k == c):=by
    unfold j7;refine ae List.flatMap_append ?_;refine ae List.countP_append ?_
    congr 1
    ·refine Mw λk hk=>?_;refine zt (List.mem_flatMap.mp hk) λnd h7 h8=>?_;refine aB (K9.mp h7) λi h9=>?_;refine ae (ro k (H.cD h9 h8)) ?_;rfl
    ·simp only[List.flatMap_cons,List.flatMap_nil,List.append_nil];exact Mw λk hk=>by refine ae (ro k (cO k hk)) ?_;rfl
   refine ae h6 ?_;by_cases e2:∃j∈ns,root par j=c
   ·refine ae (h1 _ e e2) ?_;refine ae Ki ?_;refine ae Kj ?_;refine zt e2 λj h7 h8=>?_;have' this:0<ns.countP (λk=>root par k == c):=List.countP_pos_iff.mpr ⟨j,h7,by simp[h8]⟩;exact Si this h5
   ·exact ae (h2 _ e e2) (Sj h5)
  ·have' this:c=nds.length:=qZ hl e;refine ae this ?_;refine ae h3 ?_;exact Kt _
 ·intro n hn;refine ae Ki ?_;refine ae Kj ?_;rcases Kw.mp hn with h | h
  ·exact Sl h
  ·have' this:_:=H.12 n h;exact xh this
 ·have' h4:_:=H.13;rewrite [yC];refine ae Ki ?_;refine ae Kj ?_;refine ae Lj ?_;exact Sn h4 rfl
end
section
set_option genSizeOf false
set_option genInjectivity false
variable {B:Bs} {A:Around} {S:St}
theorem ik(n:Int)(t:Tok):(intKind p w).is n (.int n t)=true:=by
 refine(?_:Value.isInt n (.int n t)=true);exact if_pos rfl
theorem jd{K:Type}[DecidableEq K](kvs:List (K × Value))(k:K)(v:Value)(x:K):valueAt (PySem.stored kvs k v) x=if x=k then some v else valueAt kvs x:=by
 unfold valueAt PySem.stored;split
 ·rename_i h;induction kvs with
  | nil=>simp at h
  | cons kv r ih =>
   refine ae M7 ?_;by_cases e:kv.1=k
   ·refine ae (if_pos e) ?_;by_cases ex:x=k
    ·subst ex;simp[e]
    ·refine ae (if_neg ex) ?_;have n1:¬kv.1=x:=λq=>ex (q.symm.trans e);refine ae (Lp (by simpa using n1)) ?_;refine ae (Lp (by simpa using n1)) ?_;by_cases h':(r.any λkv=>decide (kv.1=k))=true
     ·exact ae (ih h') (ae (if_neg ex) rfl)
     ·refine ae (map_store_of_not_mem r k v (λq=>h' (by
       refine zt (Kr.mp q) λz z1 z2=>?_;exact List.any_eq_true.mpr ⟨z,z1,by simpa using z2⟩))) ?_;rfl
   ·refine ae (if_neg e) ?_;have' h':(r.any λkv=>decide (kv.1=k))=true:=by
     rw[List.any_cons]at h;simpa[e] using h
    by_cases ex:kv.1=x
    ·refine ae (Mg (by simpa using ex)) ?_;refine ae (Mg (by simpa using ex)) ?_;refine ae (if_neg (λq=>e (ex.trans q))) ?_;rfl
    ·refine ae (Lp (by simpa using ex)) ?_;refine ae (Lp (by simpa using ex)) ?_;refine ae (ih h') ?_;rfl
 ·rename_i h;refine ae List.find?_append ?_;by_cases ex:x=k
  ·subst ex;have' this:kvs.find? (λkv=>decide (kv.1=x))=none:=by
    rw[List.find?_eq_none];intro z hz q;exact h (List.any_eq_true.mpr ⟨z,hz,q⟩)
   refine ae this ?_;simp
  ·refine ae (if_neg ex) ?_;have' this:[(k,v)].find? (λkv=>decide (kv.1=x))=none:=by
    refine ae (Lp (by simpa using λq=>ex q.symm)) ?_;rfl
   refine ae this ?_;simp
theorem qX{K:Type}[DecidableEq K](kvs:List (K × Value))(k:K)(v:Value):(PySem.stored kvs k v).length=if (valueAt kvs k).isSome=true then kvs.length else kvs.length+1:=by
 have' e:(valueAt kvs k).isSome=kvs.any (λkv=>decide (kv.1=k)):=by
  refine ae Option.isSome_map ?_;induction kvs with
  | nil=>rfl
  | cons a r ih =>
   by_cases h:a.1=k
   ·refine ae (Mg (by simpa using h)) ?_;simp[h]
   ·refine ae (Lp (by simpa using h)) ?_;refine ae ih ?_;simp[h]
 refine ae e ?_;unfold PySem.stored;split <;> simp
theorem qj{K:Type}[DecidableEq K](kvs:List (K × Value))(k x:K):valueAt (without kvs k) x=if x=k then none else valueAt kvs x:=by
 unfold valueAt without;by_cases e:x=k
 ·subst e;refine ae (if_pos rfl) ?_;have' this:(kvs.filter λkv=>decide (kv.1≠x)).find? (λkv=>decide (kv.1=x))=none:=by
   rw[List.find?_eq_none];intro z hz q;have' this:_:=(L6.mp hz).2;simp at this q;exact this q
  exact ae this rfl
 ·refine ae (if_neg e) ?_
  congr 1
  induction kvs with
  | nil=>rfl
  | cons a r ih =>
   by_cases h:a.1=k
   ·refine ae (List.filter_cons_of_neg (by simpa using h)) ?_;refine ae ih ?_;refine ae (Lp (by simpa using λq:a.1=x=>e (q.symm.trans h))) ?_;rfl
   ·refine ae (List.filter_cons_of_pos (by simpa using h)) ?_;by_cases h2:a.1=x
    ·refine ae (Mg (by simpa using h2)) ?_;refine ae (Mg (by simpa using h2)) ?_;rfl
    ·refine ae (Lp (by simpa using h2)) ?_;refine ae (Lp (by simpa using h2)) ?_;refine ae ih ?_;rfl
theorem Y2{K:Type}[DecidableEq K](kvs:List (K × Value))(k:K):(without kvs k).length<=kvs.length:=Mh ..
structure HL where
 h:Addr
 hd:Addr
 ed:Addr
 fo:Addr
 kn:Addr
 ab:Addr
 wt:Addr
 B:BL
 U:UL
noncomputable def Zb(xs:List (NK × Addr × Value))(kn:List (Nd × Nat)):Prop:=xs.map (·.1)=kn.map (λe=>bL e.1)/\∀(i:Nat) z e,xs[i]? = some z->kn[i]? = some e->∃t,z.2.2 = .int (e.2:Nat) t
noncomputable def Zc(v:Mp)(par:List Nat)(kvs:List (Int × Value))(us:Nat->List Nat):Prop:=A3
 (∀c:Nat,par.getD c 0=c->c<par.length->E2 λa xs=>A3 (valueAt kvs (c:Int)=some (.ref a)) (v a=some (.list xs)) (IntsAre xs ((us c).map Int.ofNat)))
 (∀(c c':Int) a,valueAt kvs c=some (.ref a)->valueAt kvs c'=some (.ref a)->c=c')
 (∀(z:Int) w,valueAt kvs z=some w->E2 λa xs=>w = .ref a/\v a=some (.list xs))
noncomputable def HR(B:Bs)(L:HL)(k b u l h v:Mp)(nds:List Nd)(par:List Nat)(aj:List (List Nat))(kn:List (Nd × Nat))(us:Nat->List Nat)(wt:List Nat)(ne:Nat):Prop:=CX
 (BR B L.B k b nds)
 (UR L.U k u l par aj)
 (k L.h=some (.is (zd 478 L.hd)))
 (∃t,h L.hd=some (.attrs [("bank",.ref L.B.b),("unions",.ref L.U.u),("edges",.ref L.ed),("forest",.ref L.fo),("known",.ref L.kn),("above",.ref L.ab),("waiting",.ref L.wt),("backs",.int 0 t)]))
 (∃es,h L.ed=some (.list es)/\es.length+j4 par<=ne)
 (∃fs,h L.fo=some (.list fs)/\fs.length+j4 par<=ne)
 (E2 λes xs=>A3 (h L.kn=some (.dict es)) (j2 B k es xs) (Zb xs kn))
 (E2 λes kvs=>A4 (h L.ab=some (.dict es)) (DK (B:=B) (intKind B.prog B.w) es kvs) (kvs.length<=nds.length) (Zc v par kvs us))
 (∃ws,h L.wt=some (.list ws)/\IntsAre ws (wt.map Int.ofNat))
 (L.ed≠L.fo/\L.ed≠L.wt/\L.fo≠L.wt/\L.kn≠L.ab)
 (ne<=100000)
theorem HR.mono(H:HR B L k b u l h v nds par aj kn us wt ne)(le:k.le k'):HR B L k' b u l h v nds par aj kn us wt ne :=
 ⟨H.1.mono le,H.2.mono le,le _ _ H.3,H.4,H.5,H.6,(by refine jP H.7 λes xs h1 h2 h3=>?_;exact⟨es,xs,h1,h2.mono le,h3⟩),H.8,H.9,H.10,H.11⟩
theorem Zb.len(h:Zb xs kn):xs.length=kn.length:=by
 have' this:_:=congrArg List.length h.1;simpa using this
theorem Zb.get{k:Mp}{es:List DictEntry}{xs:List (NK × Addr × Value)}{kn:List (Nd × Nat)}(h:Zb xs kn)(D:j2 B k es xs){nd:Nd}{m:Nat}(hm:(nd,m)∈kn):∃t,j6 xs (bL nd)=some (.int (m:Nat) t):=by
 refine aB (K9.mp hm) λi hi=>?_;have h1:(xs.map (·.1))[i]? = some (bL nd):=by refine ae h.1 ?_;refine ae Lf ?_;refine ae hi ?_;rfl
 rw[List.getElem?_map]at h1;cases e:xs[i]? with
 | none=>rw[e]at h1;injection h1
 | some z =>
  rw[e]at h1;refine aB (h.2 i z _ e hi) λt ht=>?_;obtain⟨key,b,v⟩:=z;obtain rfl:=Option.some.inj h1;dsimp only at ht;subst ht;exact⟨t,Yq D.3 (Kx e)⟩
theorem Zb.none{xs:List (NK × Addr × Value)}{kn:List (Nd × Nat)}(h:Zb xs kn){nd:Nd}(hm:∀m,(nd,m)∉kn):j6 xs (bL nd)=none:=by
 cases e:j6 xs (bL nd) with
 | none=>rfl
 | some v =>
  refine aB (Xk e) λb hb=>?_;have' h1:bL nd∈kn.map (λe=>bL e.1):=aR h.1 (Kr.mpr ⟨_,hb,rfl⟩);refine zV (Kr.mp h1) λfK h2 h3=>?_;obtain⟨bK,m⟩:=fK;exact absurd (LL h3▸h2) (hm m)
variable {L:HL} {nds:List Nd} {ps:List (Nat × Nat)} {par:List Nat} {aj:List (List Nat)} {kn:List (Nd × Nat)} {us:Nat->List Nat} {wt:List Nat} {ne:Nat}
theorem jO(R:zC 2 A)(U:HR B L S.k S.b S.u S.l S.h S.v nds par aj kn us wt ne)(I:UI par aj)(hi:i<par.length)(h:∀t,Q (.int (root par i:Nat) t) S):
  V B A S (call (.ref 402) [.ref L.h,.int i t]) Q:=by
 refine zL (f:=402) (binds:=[("self",.ref L.h),("n",.int i t)]) (n:=1) (by delta Bs.K;k_is) (by kernel_rfl) R rfl (by rfl) (by kernel_rfl) ?_;intro A' env R' en;dsimp only at en;refine aB U.4 λta u2=>?_;have' u1:_:=U.3;have' u3:_:=U.2.1;have' u4:_:=U.2.2;w_fin;o_unpack jN;o_unpack yZ;refine ao (gD R' U.2 I hi λt1=>?_);w_means;exact⟨S,St.le_refl _,h t1⟩
theorem zbh(R:zC 2 A)(U:HR B L S.k S.b S.u S.l S.h S.v nds par aj kn us wt ne)(I:BI nds)(h:∀t,Q (.int nds.length t) S):
  V B A S (call (.ref 373) [.ref L.h]) Q:=by
 refine zL (f:=373) (binds:=[("self",.ref L.h)]) (n:=1) (by delta Bs.K;k_is) (by kernel_rfl) R rfl (by rfl) (by kernel_rfl) ?_;intro A' env R' en;dsimp only at en;refine aB U.4 λta u2=>?_;have' u1:_:=U.3;have' u3:_:=U.1.1;have' u4:_:=U.1.2;w_fin;o_unpack qQ;o_unpack G4;refine ao (zbe R' U.1 I λt1=>?_);w_means;exact⟨S,St.le_refl _,h t1⟩
theorem gX(R:zC 2 A)(U:HR B L S.k S.b S.u S.l S.h S.v nds par aj kn us wt ne)(I:UI par aj)(h:∀c k' out,S.k.le k'->k' c=some (.list out)->IntsAre out ((zK par).map Int.ofNat)->Q (.ref c) (S.to .k k')):V B A S (call (.ref 444) [.ref L.h]) Q:=by
 refine zL (f:=444) (binds:=[("self",.ref L.h)]) (n:=1) (by delta Bs.K;k_is) (by kernel_rfl) R rfl (by rfl) (by kernel_rfl) ?_;intro A' env R' en;dsimp only at en;refine aB U.4 λta u2=>?_;have' u1:_:=U.3;have' u3:_:=U.2.1;have' u4:_:=U.2.2;w_fin;o_unpack jN;o_unpack ZP;refine ao (QZ R' U.2 I λc k' out le hk hI=>?_);w_means;exact⟨_,St.le_refl _,h c k' out le hk hI⟩
theorem Q0(R:zC 3 A)(U:HR B L S.k S.b S.u S.l S.h S.v nds par aj kn us wt ne)(I:UI par aj)(hi:i<par.length)(h:∀c k' out,S.k.le k'->k' c=some (.list out)->IntsAre out ((jh par i).map Int.ofNat)->Q (.ref c) (S.to .k k')):V B A S (call (.ref 451) [.ref L.h,.int i t]) Q:=by
 refine zL (f:=451) (binds:=[("self",.ref L.h),("c",.int i t)]) (n:=2) (by delta Bs.K;k_is) (by kernel_rfl) R rfl (by rfl) (by kernel_rfl) ?_;intro A' env R' en;dsimp only at en;refine aB U.4 λta u2=>?_;have' u1:_:=U.3;have' u3:_:=U.2.1;have' u4:_:=U.2.2;w_fin;o_unpack jN;o_unpack ZO;refine ao (QY R' U.2 I hi λc k' out le hk hI=>?_);w_means;exact⟨_,St.le_refl _,h c k' out le hk hI⟩
end
section
set_option genSizeOf false
set_option genInjectivity false
variable {B:Bs} {A:Around} {S:St}
variable {L:HL} {nds:List Nd} {ps:List (Nat × Nat)} {par:List Nat} {aj:List (List Nat)} {kn:List (Nd × Nat)} {us:Nat->List Nat} {wt:List Nat} {ne:Nat}
theorem Y3{i:Nat}(R:zC 3 A)(U:HR B L S.k S.b S.u S.l S.h S.v nds par aj kn us wt ne)(I:UI par aj)(Ib:BI nds)(hlen:par.length=nds.length)(hi:nds[i]? = some nd)(h:∀c k',S.k.le k'->jH k' c nd.1 ((nd.2.map (root par)).map Int.ofNat)->Q (.ref c) (S.to .k k')):V B A S (call (.ref 378) [.ref L.h,.int i t]) Q:=by
 refine zL (f:=378) (binds:=[("self",.ref L.h),("n",.int i t)]) (n:=2) (by delta Bs.K;k_is) (by kernel_rfl) R rfl (by rfl) (by kernel_rfl) ?_;intro A' env R' en;dsimp only at en;refine aB U.4 λta u2=>?_;have u1:=U.3;have u3:=U.1.1;have u4:=U.1.2;have h2:=Ib.4 nd (Kx hi);w_fin;refine zN ?_;w_fin;o_unpack qQ;o_unpack zcE;refine ao (zeq (R'.less (by decide)) U.1 Ib hi λt1=>?_);w_fin;refine ze (Kv _) λc0 k0 bU fU ZZ=>?_;w_fin;o_unpack xp;have v1:=bU _ _ u1;have' v3:_:=bU _ _ u3;have U1:=U.mono bU
 let Inv1:(Addr × { r:List Value // r.length<=1000000 })->Nat->St->List Value->Prop:=λj i S' l=>∃k4,A5 (S'=⟨k4,S.b,S.u,S.l,S.h,S.v,S.p,S.m⟩) (k0.le k4) (k4 j.1=some (.tup j.2.1)) (IntsAre j.2.1 (nd.2.map Int.ofNat)) (IntsAre l (((nd.2.take i).map (root par)).map Int.ofNat))
 refine zG .k (λj:Addr × { r:List Value // r.length<=1000000 }=>(jp B j.1 j.2.1).src) [("self",.ref L.h)]
  Inv1 en (by kernel_rfl) ⟨by decide,rfl,trivial⟩ R'.3 (λj=>j.2.2) (zY (λj:Addr × { r:List Value // r.length<=1000000 }=>jp B j.1 j.2.1) ?_) (λj env2 bq=>zr _ bq (by rfl) (.inr (by rfl))) ?_ ?_ ?_ ?_
 ·w_fin;o_unpack qQ;o_unpack G6;refine ao (zbf (R'.less (by decide)) U1.1 Ib hi λc k' r le hk hI=>?_);have lr:=hI.length;rw[List.length_map]at lr;exact⟨(c,⟨r,by exact z9 lr h2 rfl⟩),rfl,gk hk,rfl,k',rfl,le,hk,hI,by simpa using .nil⟩
 ·rintro j i S' l ⟨k4,rfl,aG,bz,_⟩;exact gk bz
 ·intro j i S' vs' bg bZ;refine zJ bZ λbo v ZZ bG=>?_;obtain rfl:=bo;obtain rfl:=bG;exact Vs.Sub.set rfl
 ·rintro j env2 bq i S' l vs' bg aQ ⟨k4,rfl,aG,bz,hr,hl⟩ fS;refine zJ fS λcj v hv eB=>?_;obtain rfl:=cj;obtain rfl:=eB;have' lr:_:=hr.length;rw[List.length_map]at lr;have aA:i<nd.2.length:=by have' this:i<j.2.1.length:=aQ;exact jx this lr
  refine aB (jk hr aA) λt6 iM=>?_;have' ev:v = .int (nd.2.getD i 0:Nat) t6:=Option.some.inj (hv.symm.trans iM);subst ev;have' ck:nd.2.getD i 0∈nd.2:=by refine ae Kh ?_;refine ae (Ka aA) ?_;exact Ky aA
  have' cO:nd.2.getD i 0<par.length:=by
   have' h3:_:=Ib.3 _ nd hi _ ck;have' h4:_:=(Kb.mp hi).1;exact Sp h3 hlen h4
  have' w1:_:=aG _ _ v1;dsimp only[jA,zi];refine z7 rfl ?_;w_fin;o_unpack jD;refine ao (jO R' (U1.mono aG) I cO λt7=>?_);refine⟨Vs.Sub.refl _,k4,rfl,aG,bz,hr,?_⟩;refine ae Lu ?_;refine ae (Ka aA) ?_;simp only[Option.toList_some,List.map_append,List.map_cons,List.map_nil];have' e:nd.2.getD i 0=nd.2[i]:=by refine ae Kh ?_;refine ae (Ka aA) ?_;rfl
  refine aR e ?_;exact IntsAre.append hl (.cons _ t7 .nil)
 ·rintro j S' l D ⟨k4,rfl,aG,bz,hr,hl⟩ aH;have' lr:_:=hr.length;rw[List.length_map]at lr;have e:(jp B j.1 j.2.1).src.n=nd.2.length:=lr;rw[e,List.take_length]at hl;have ll:=hl.length;rw[List.length_map,List.length_map]at ll;have' bC:k4 D=none:=aH .k;o_reads;have' aP:k4.le (upd k4 D (.list l)):=Mp.av bC;have' hD:_:=za k4 D (.list l);generalize upd k4 D (.list l)=k5 at aP hD |-;w_fin;refine ao (yh (r:=.k) (gk hD) (z9 ll h2 rfl) λc6 dV=>?_);have' cE:k5 c6=none:=dV .k;o_reads;have' aZ:k5.le (upd k5 c6 (.tup l)):=Mp.av cE;have' kL:_:=za k5 c6 (.tup l);generalize upd k5 c6 (.tup l)=k6 at aZ kL |-;w_fin;have cP:=Mp.le_trans aG (Mp.le_trans aP aZ);refine ao (y9 (cP _ _ fU) kL (Kv _) (z9 ll h2 rfl) λc7 k7 bO oa=>?_);dsimp only[St.put,St.to,St.get]at bO oa |-;w_means;exact⟨_,St.le_refl _,h c7 k7 (Mp.le_trans bU (Mp.le_trans cP bO)) ⟨_,oa,t1,l,rfl,hl⟩⟩
end
section
set_option genSizeOf false
set_option genInjectivity false
variable {B:Bs} {A:Around} {S:St}
variable {L:HL} {nds:List Nd} {ps:List (Nat × Nat)} {par:List Nat} {aj:List (List Nat)} {kn:List (Nd × Nat)} {us:Nat->List Nat} {wt:List Nat} {ne:Nat}
theorem Gs(h:∀z∈ns,0<=z):∃ms:List Nat,ns=ms.map Int.ofNat:=by
 refine⟨ns.map Int.toNat,?_⟩;refine ae Vp ?_;refine(List.map_id ns).symm.trans (Mk λz hz=>?_);have' this:_:=h z hz;refine(?_:z=((z.toNat:Nat):Int));exact Cy this
theorem xg{l:List Nat}{n:Nat}:((n:Nat):Int)∈l.map Int.ofNat↔n∈l:=by
 rw[List.mem_map];constructor
 ·intro bZ;refine zV bZ λm h1 h2=>?_;have' this:m=n:=by injection h2
  exact this▸h1
 ·intro h;exact⟨n,h,rfl⟩
theorem Zd{l:List Nat}{n:Nat}(h:∀x∈l,x<n):∀z∈l.map Int.ofNat,z∈(List.range n).map Int.ofNat:=by
 intro z hz;refine zV (Kr.mp hz) λx h1 bo=>?_;obtain rfl:=bo;exact Kr.mpr ⟨x,K8.mpr (h x h1),rfl⟩
theorem zaf{i:Nat}(R:zC 3 A)(U:HR B L S.k S.b S.u S.l S.h S.v nds par aj kn us wt ne)(H:HI nds ps par aj kn us wt)(hi:i<nds.length)(h:∀c k' out (ns:List Nat),S.k.le k'->k' c=some (.list out)->IntsAre out (ns.map Int.ofNat)->(∀n,n∈ns↔n∈us (root par i))->ns.length<=15->Q (.ref c) (S.to .k k')):V B A S (call (.ref 475) [.ref L.h,.int i t]) Q:=by
 refine zL (f:=475) (binds:=[("self",.ref L.h),("c",.int i t)]) (n:=2) (by delta Bs.K;k_is) (by kernel_rfl) R rfl (by rfl) (by kernel_rfl) ?_;intro A' env R' en;dsimp only at en;refine aB U.4 λta u2=>?_;have u1:=U.3;obtain⟨es,kvs,a1,a2,a3,a4⟩:=U.8;have hlen:=H.3;have hr:=H.bj hi;have lB:=zq H.2.3 i;obtain⟨x,xs,b1,b2,b3⟩   := a4.1 (root par i) lB (aM hr hlen);have small:=H.1.1;w_fin;o_unpack y8;o_unpack Xl;o_unpack jX;o_unpack jD;refine ao (jO R' U H.2 (aM hi hlen) λt1=>?_);w_fin;refine ao (jG (k:=((root par i:Nat):Int)) (by w_left) a2 (ik _ _) b1 ?_);w_fin;refine ao (wd (r:=.k) (U:=(List.range nds.length).map Int.ofNat) R'.3 (ui b2) (.inl rfl) b3 (Zd (H.10 _ lB hr)) (by simp;exact zS small rfl) λa eu t2 aH I2 hm=>?_);have' dB:S.k a=none:=aH .k;o_reads;have' aU:S.k.le (upd S.k a (.set eu t2)):=Mp.av dB;have' ha:_:=za S.k a (.set eu t2);generalize upd S.k a (.set eu t2)=k1 at aU ha |-;w_fin;have bT:eu.length<=15:=by
  rw[<-zP];have' this:_:=jb (U:=(List.range nds.length).map Int.ofNat) I2.3 λz hz=>Zd (H.10 _ lB hr) z ((hm z).mp hz);simp at this;exact xL this small rfl
 refine ao (yj (r:=.k) R'.3 (gk ha) I2.2 I2.1 (zS bT rfl) λc out bJ cC hI hp hs=>?_);have' mK:k1 c=none:=cC .k;have rR:∀z∈bJ,0<=z:=λz hz=>by
  refine zV (Kr.mp ((hm z).mp (hp.mem_iff.mp hz))) λx ZZ bG=>?_;obtain rfl:=bG;exact Mo _
 obtain⟨ms,rfl⟩:=Gs rR;w_means;refine⟨_,St.le_refl _,h c _ out ms (Mp.le_trans aU (Mp.av mK)) (za _ _ _) hI (λn=>?_) ?_⟩
 ·rw[<-xg,hp.mem_iff,hm,xg]
 ·have' this:_:=hp.length_eq;rw[List.length_map,zP]at this;exact HZ this bT
theorem Y4(R:zC 4 A)(U:HR B L S.k S.b S.u S.l S.h S.v nds par aj kn us wt ne)(H:HI nds ps par aj kn us wt)(hi:i<nds.length)(h:∀c k' out,S.k.le k'->k' c=some (.list out)->out.length<=12->(∀v∈out,∃b n nd,v = .ref b/\n∈jh par i/\nds[n]? = some nd/\jH k' b nd.1 ((nd.2.map (root par)).map Int.ofNat))->
   (∀n∈jh par i,∀nd,nds[n]? = some nd->∃b,.ref b∈out/\jH k' b nd.1 ((nd.2.map (root par)).map Int.ofNat))->Q (.ref c) (S.to .k k')):V B A S (call (.ref 456) [.ref L.h,.int i t]) Q:=by
 refine zL (f:=456) (binds:=[("self",.ref L.h),("c",.int i t)]) (n:=3) (by delta Bs.K;k_is) (by kernel_rfl) R rfl (by rfl) (by kernel_rfl) ?_;intro A' env R' en;dsimp only at en;refine aB U.4 λta u2=>?_;have u1:=U.3;have hlen:=H.3;have' small:_:=H.1.1;have' cl:∀n∈jh par i,n<nds.length:=λn hn=>by
  have' this:_:=K8.mp (L6.mp hn).1;exact jx this hlen
 have cz:(jh par i).length<=12:=by
  have' this:_:=Mh (λj=>root par j == root par i) (List.range par.length);rw[List.length_range]at this;refine(?_:(List.filter _ _).length<=12);exact H0 this hlen small
 w_fin;o_unpack y8;o_unpack Xl
 let Inv1:(Addr × { r:List Value // r.length<=1000000 })->Nat->St->List Value->Prop:=λj i' S' l=>∃k4,A6 (S'=⟨k4,S.b,S.u,S.l,S.h,S.v,S.p,S.m⟩) (S.k.le k4) (k4 j.1=some (.list j.2.1)) (IntsAre j.2.1 ((jh par i).map Int.ofNat)) (l.length=i') (∀q,q<i'->∃b nd,l[q]? = some (.ref b)/\nds[(jh par i).getD q 0]? = some nd/\jH k4 b nd.1 ((nd.2.map (root par)).map Int.ofNat))
 refine zG .k (λj:Addr × { r:List Value // r.length<=1000000 }=>(zf B j.1 j.2.1).src) [("self",.ref L.h)]
  Inv1 en (by kernel_rfl) ⟨by decide,rfl,trivial⟩ R'.3 (λj=>j.2.2) (zY (λj:Addr × { r:List Value // r.length<=1000000 }=>zf B j.1 j.2.1) ?_) (λj env2 bq=>zr _ bq (by rfl) (.inr (by rfl))) ?_ ?_ ?_ ?_
 ·w_fin;o_unpack YX;refine ao (Q0 R' U H.2 (aM hi hlen) λc k' out le hk hI=>?_);have lr:=hI.length;rw[List.length_map]at lr;exact⟨(c,⟨out,by exact z9 lr cz rfl⟩),rfl,gk hk,rfl,k',rfl,le,hk,hI,rfl,λq hq=>absurd hq (K4 _)⟩
 ·rintro j i' S' l ⟨k4,rfl,aG,bz,_⟩;exact gk bz
 ·intro j i' S' vs' bg fS;refine zJ fS λcj v ZZ eB=>?_;obtain rfl:=cj;obtain rfl:=eB;exact Vs.Sub.set rfl
 ·rintro j env2 bq i' S' l vs' bg aQ ⟨k4,rfl,aG,bz,hr,hl,hq⟩ og;refine zJ og λiI v hv eC=>?_;obtain rfl:=iI;obtain rfl:=eC;have' lr:_:=hr.length;rw[List.length_map]at lr;have aA:i'<(jh par i).length:=by have' this:i'<j.2.1.length:=aQ;exact jx this lr
  refine aB (jk hr aA) λt6 iM=>?_;have' ev:v = .int ((jh par i).getD i' 0:Nat) t6:=Option.some.inj (hv.symm.trans iM);subst ev;have ck:(jh par i).getD i' 0∈jh par i:=by refine ae Kh ?_;refine ae (Ka aA) ?_;exact Ky aA
  have ku:=cl _ ck;have' w1:_:=aG _ _ u1;dsimp only[jA,zi];refine z7 rfl ?_;w_fin;o_unpack Z7;refine ao (Y3 R' (U.mono aG) H.2 H.1 hlen (Ka ku) λc5 k5 aP hN=>?_);have' dW:_:=Mp.le_trans aG aP;refine⟨Vs.Sub.refl _,k5,rfl,dW,aP _ _ bz,hr,ae Ki (ae hl rfl),λq LQ=>?_⟩;by_cases e:q<i'
  ·refine jg (hq q e) λb nd e1 e2 e3=>?_;exact⟨b,nd,by refine ae (Mj (XB LQ e hl)) ?_;exact e1,e2,jH.mono e3 aP⟩
  ·have' this:q=i':=qZ LQ e;subst this;refine⟨c5,_,?_,Ka ku,hN⟩;refine aR hl ?_;refine ae (List.getElem?_append_right (Kz _)) ?_;rw[Nat.sub_self];rfl
 ·rintro j S' l D ⟨k4,rfl,aG,bz,hr,hl,hq⟩ aH;have' lr:_:=hr.length;rw[List.length_map]at lr;have e:(zf B j.1 j.2.1).src.n=(jh par i).length:=lr;rw[e]at hl hq;have' bC:k4 D=none:=aH .k;o_reads;have aP:k4.le (upd k4 D (.list l)):=Mp.av bC;have' hD:_:=za k4 D (.list l);generalize upd k4 D (.list l)=k5 at aP hD |-;have uA:∀v∈l,∃b n nd,v = .ref b/\n∈jh par i/\nds[n]? = some nd/\jH k5 b nd.1 ((nd.2.map (root par)).map Int.ofNat):=λv hv=>by
   refine aB (K9.mp hv) λq dr=>?_;have fW:q<(jh par i).length:=aR hl ((Kb.mp dr).1);refine jg (hq q fW) λb nd e1 e2 e3=>?_;rw[e1]at dr;exact⟨b,_,nd,(Option.some.inj dr).symm,by refine ae Kh ?_;refine ae (Ka fW) ?_;exact Ky fW,e2,jH.mono e3 aP⟩
  w_fin;refine ao (GX (r:=.m) (by intro e;injection e) R'.3 (by have' this:_:=R'.2;refine(?_:_<9900);exact Sq this) (gk hD) (λv hv=>(by refine jy (uA v hv) λb n nd e1 ZZ ZZ e4=>?_;exact⟨b,_,_,e1,e4⟩)) (z9 hl cz rfl) λa es t2 dV T N hz kM bS=>?_);o_reads;w_fin;refine ao (Yo (r:=.k) R'.3 (kZ (c:=.set es t2) (za _ _ _)) T N (H6 hz hl cz rfl) λc out DW hp=>?_);have' vi:k5 c=none:=DW .k;have' cE:S.m a=none:=dV .m;o_reads;have bO:k5.le (upd k5 c (.list out)):=Mp.av vi;have' iO:_:=za k5 c (.list out);generalize upd k5 c (.list out)=k7 at bO iO |-;w_means;refine⟨⟨k7,S.b,S.u,S.l,S.h,S.v,S.p,S.m⟩,St.lM (Mp.le_refl _) (Mp.le_refl _) (Mp.le_refl _) (Mp.le_refl _) (Mp.le_refl _) (Mp.le_refl _) (Mp.le_refl _) (Mp.av cE),h c k7 out (Mp.le_trans aG (Mp.le_trans aP bO)) iO ?_ ?_ ?_⟩
  ·have' this:_:=hp.length_eq;rw[List.length_map]at this;exact Sr this hz hl cz
  ·intro v hv;refine jy (uA v (kM v (hp.mem_iff.mp hv))) λb n nd e1 e2 e3 e4=>?_;exact⟨b,n,nd,e1,e2,e3,jH.mono e4 bO⟩
  ·intro n hn nd bB;refine aB (K9.mp hn) λq dr=>?_;have' fW:_:=(Kb.mp dr).1;refine jg (hq q fW) λb bK e1 e2 e3=>?_;have e5:(jh par i).getD q 0=n:=by refine ae Kh ?_;refine ae dr ?_;rfl
   rw[e5,bB]at e2;obtain rfl:=Option.some.inj e2;refine zt (bS b _ _ (Kx e1) (jH.mono e3 aP)) λc' h1 h2=>?_;exact⟨c',hp.mem_iff.mpr h2,jH.mono h1 bO⟩
end
section
set_option genSizeOf false
set_option genInjectivity false
variable {B:Bs} {A:Around} {S:St}
variable {L:HL} {nds:List Nd} {ps:List (Nat × Nat)} {par:List Nat} {aj:List (List Nat)} {kn:List (Nd × Nat)} {us:Nat->List Nat} {wt:List Nat} {ne:Nat}
theorem Q1(h:Q (.bool false) S):V B A S (compareOp .Is (.ref a) .none) Q:=λX s o=>is_ref_none ⟨S,o,h⟩
theorem Y5(h:Q (.bool true) S):V B A S (compareOp .Is .none .none) Q:=λX s o=>wpAny_is_self (by decide) ⟨S,o,h⟩
noncomputable abbrev tK(L:HL)(t:Tok):Vs:=[("bank",.ref L.B.b),("unions",.ref L.U.u),("edges",.ref L.ed),("forest",.ref L.fo),("known",.ref L.kn),("above",.ref L.ab),("waiting",.ref L.wt),("backs",.int 0 t)]
noncomputable def HH(L:HL)(h:Mp)(t:Tok)(e f w:List Value)(kn ab:List DictEntry):Prop:=A7
 (h L.hd=some (.attrs (tK L t)))
 (h L.ed=some (.list e))
 (h L.fo=some (.list f))
 (h L.wt=some (.list w))
 (h L.kn=some (.dict kn))
 (h L.ab=some (.dict ab))
 (L.ed≠L.fo/\L.ed≠L.wt/\L.fo≠L.wt/\L.kn≠L.ab)
section
variable {h:Mp} {t:Tok} {e f w:List Value} {dX dY:List DictEntry}
theorem HH.vj(H:HH L h t e f w dX dY)(e':List Value):HH L (upd h L.ed (.list e')) t e' f w dX dY :=
 ⟨(zb _ _ (zU H.1 H.2 (by intro e;injection e))).trans H.1,za _ _ _,(zb _ _ (Ne.symm H.7.1)).trans H.3,(zb _ _ (Ne.symm H.7.2.1)).trans H.4,(zb _ _ (zU H.5 H.2 (by intro e;injection e))).trans H.5,(zb _ _ (zU H.6 H.2 (by intro e;injection e))).trans H.6,H.7⟩
theorem HH.vk(H:HH L h t e f w dX dY)(f':List Value):HH L (upd h L.fo (.list f')) t e f' w dX dY :=
 ⟨(zb _ _ (zU H.1 H.3 (by intro e;injection e))).trans H.1,(zb _ _ H.7.1).trans H.2,za _ _ _,(zb _ _ (Ne.symm H.7.2.2.1)).trans H.4,(zb _ _ (zU H.5 H.3 (by intro e;injection e))).trans H.5,(zb _ _ (zU H.6 H.3 (by intro e;injection e))).trans H.6,H.7⟩
theorem HH.pf(H:HH L h t e f w dX dY)(w':List Value):HH L (upd h L.wt (.list w')) t e f w' dX dY :=
 ⟨(zb _ _ (zU H.1 H.4 (by intro e;injection e))).trans H.1,(zb _ _ H.7.2.1).trans H.2,(zb _ _ H.7.2.2.1).trans H.3,za _ _ _,(zb _ _ (zU H.5 H.4 (by intro e;injection e))).trans H.5,(zb _ _ (zU H.6 H.4 (by intro e;injection e))).trans H.6,H.7⟩
theorem HH.vl(H:HH L h t e f w dX dY)(k':List DictEntry):HH L (upd h L.kn (.dict k')) t e f w k' dY :=
 ⟨(zb _ _ (zU H.1 H.5 (by intro e;injection e))).trans H.1,(zb _ _ (zU H.2 H.5 (by intro e;injection e))).trans H.2,(zb _ _ (zU H.3 H.5 (by intro e;injection e))).trans H.3,(zb _ _ (zU H.4 H.5 (by intro e;injection e))).trans H.4,za _ _ _,(zb _ _ (Ne.symm H.7.2.2.2)).trans H.6,H.7⟩
theorem HH.mL(H:HH L h t e f w dX dY)(a':List DictEntry):HH L (upd h L.ab (.dict a')) t e f w dX a' :=
 ⟨(zb _ _ (zU H.1 H.6 (by intro e;injection e))).trans H.1,(zb _ _ (zU H.2 H.6 (by intro e;injection e))).trans H.2,(zb _ _ (zU H.3 H.6 (by intro e;injection e))).trans H.3,(zb _ _ (zU H.4 H.6 (by intro e;injection e))).trans H.4,(zb _ _ H.7.2.2.2).trans H.5,za _ _ _,H.7⟩
end
noncomputable def HX(B:Bs)(L:HL)(k v:Mp)(nds:List Nd)(par:List Nat)(kn:List (Nd × Nat))(us:Nat->List Nat)(wt:List Nat)(ne:Nat)(e f w:List Value)(dX dY:List DictEntry)(xs:List (NK × Addr × Value))(kvs:List (Int × Value)):Prop:=A8
 (e.length+j4 par<=ne)
 (f.length+j4 par<=ne)
 (j2 B k dX xs)
 (Zb xs kn)
 (DK (B:=B) (intKind B.prog B.w) dY kvs)
 (kvs.length<=nds.length)
 (Zc v par kvs us)
 (IntsAre w (wt.map Int.ofNat))
theorem HR.un(H:HR B L k b u l h v nds par aj kn us wt ne):∃t e f w dX dY xs kvs,HH L h t e f w dX dY/\HX B L k v nds par kn us wt ne e f w dX dY xs kvs:=by
 obtain⟨h1,h2,h3,⟨t,h4⟩,⟨e,h5,h6⟩,⟨f,h7,h8⟩,⟨dX,xs,h9,iq,kH⟩,⟨dY,kvs,bY,Bi,IG,IH⟩,⟨w,II,h17⟩,h18,h19⟩:=H;exact⟨t,e,f,w,dX,dY,xs,kvs,⟨h4,h5,h7,II,h9,bY,h18⟩,⟨h6,h8,iq,kH,Bi,IG,IH,h17⟩⟩
theorem HR.mk'(hb:BR B L.B k b nds)(hu:UR L.U k u l par aj)(hi:k L.h=some (.is (zd 478 L.hd)))(H:HH L h t e f w dX dY)(X:HX B L k v nds par kn us wt ne e f w dX dY xs kvs)(hz:ne<=100000):HR B L k b u l h v nds par aj kn us wt ne :=
 ⟨hb,hu,hi,⟨t,H.1⟩,⟨e,H.2,X.1⟩,⟨f,H.3,X.2⟩,⟨dX,xs,H.5,X.3,X.4⟩,⟨dY,kvs,H.6,X.5,X.6,X.7⟩,⟨w,H.4,X.8⟩,H.7,hz⟩
theorem Y6(R:zC 3 A)(U:HR B L S.k S.b S.u S.l S.h S.v nds par aj kn us wt ne)(H:HI nds ps par aj kn us fG)(hw:wt.length<=300)(hn:ne<10000)(ha:a<nds.length)(hb:b<nds.length)(h1:root par a=root par b->∀k' h',S.k.le k'->HR B L k' S.b S.u S.l h' S.v nds par aj kn us wt (ne+1)->Q (.bool false) ⟨k',S.b,S.u,S.l,h',S.v,S.p,S.m⟩)(h2:∀x y,root par a≠root par b->x=min (root par a) (root par b)->y=max (root par a) (root par b)->∀k' u' l' h' v',S.k.le k'->
   HR B L k' S.b u' l' h' v' nds (par.set y x) (aj.set x (aj.getD x []++aj.getD y [])) kn (qa us x (us x++us y)) (wt++us y) ne->Q (.bool true) ⟨k',S.b,u',l',h',v',S.p,S.m⟩):
  V B A S (call (.ref 423) [.ref L.h,.int a t,.int b u,rs]) Q:=by
 refine zL (f:=423) (binds:=[("self",.ref L.h),("a",.int a t),("b",.int b u),("reason",rs)]) (n:=2) (by delta Bs.K;k_is) (by kernel_rfl) R rfl (by rfl) (by kernel_rfl) ?_;intro A' env R' en;dsimp only at en;refine qM U.un λta e f w dX dY xs kvs HC X=>?_;have u1:=U.3;have' u3:_:=U.2.1;have' u4:_:=U.2.2;have hlen:=H.3;have small:=H.1.1;have' c1:_:=HC.1;have' c2:_:=HC.2;have ez:=X.1;have fz:=X.2;w_fin;o_unpack w4;o_unpack jS;w_fin;refine zN ?_;w_fin;refine ze (Kq _ _) λc0 k0 bU fU ZZ=>?_;w_fin;refine ao (jR (r:=.h) HC.2 (H7 ez hn rfl) ?_);o_reads;have eP:=HC.vj (e++[.ref c0]);generalize upd S.h L.ed (.list (e++[.ref c0]))=g1 at eP |-;clear c1 c2;have c1:=eP.1;have' c2:_:=eP.2;have' v1:_:=bU _ _ u1;have' v3:_:=bU _ _ u3;have' Uu:_:=U.2.mono bU;w_fin;o_unpack jN;o_unpack YU;refine ao (zac R' Uu H.2 (aM ha hlen) (aM hb hlen) (λhe k1 aU=>?_) (λx y c k1 BD l1 t1 t2 aO hx hy aU hc Uu1=>?_))
 ·o_reads;w_fin;refine ao (Y5 ?_);refine zc ?_;refine z7 rfl ?_;w_fin;have cX:=Mp.le_trans bU aU;refine⟨_,St.le_refl _,h1 he k1 g1 cX (HR.mk' (U.1.mono cX) (U.2.mono cX) (cX _ _ u1) eP ⟨?_,?_,X.3.mono cX,X.4,X.5,X.6,X.7,X.8⟩ (Zl hn rfl))⟩
  ·exact ae Ki (ae Kj (Ss ez))
  ·exact Sv fz
 ·o_reads;have cX:=Mp.le_trans bU aU;have ri:=jL H.2.3 a;have' rj:_:=jL H.2.3 b;have fR:x<nds.length:=Sw hx ri ha;have dc:y<nds.length:=H8 hy ri rj ha hb;have cy:x≠y:=Sx hx hy aO;have px:par.getD x 0=x:=by
   rcases(show x=root par a\/x=root par b by exact g7 hx) with e | e
   ·exact ae e (zq H.2.3 a)
   ·exact ae e (zq H.2.3 b)
  have py:par.getD y 0=y:=by
   rcases(show y=root par a\/y=root par b by exact g6 hy) with e | e
   ·exact ae e (zq H.2.3 a)
   ·exact ae e (zq H.2.3 b)
  refine jP (X.7.1 x px (aM fR hlen)) λax xx a1 a2 a3=>?_;refine jP (X.7.1 y py (aM dc hlen)) λay yy b1 b2 b3=>?_;have lx:=a3.length;have ly:=b3.length;rw[List.length_map]at lx ly;have zx:=H.fV px fR;have zy:=H.fV py dc;have w1:=cX _ _ u1;w_fin;refine ao (Q1 ?_);refine zc ?_;refine jf rfl ?_;w_fin;refine yi rfl ?_;w_fin;refine jU R'.3 (.inl (gk hc)) rfl (yB en rfl rfl (.inl rfl) ?_) (by rfl);try dsimp only[zi]
  clear v1 v3;have' d1:_:=eP.3;w_fin;o_unpack QU;o_unpack jS;w_fin;o_unpack yo;o_unpack w4;refine ao (zI (by w_left) (by simp;exact Sy ez hn rfl) λt3=>?_);w_fin;refine ao (Zs λt4=>?_);w_fin;generalize hj:(((e++[Value.ref c0]).length:Nat):Int) - 1=j;refine ao (jR (r:=.h) eP.3 (H7 fz hn rfl) ?_);o_reads;have tL:=eP.vk (f++[.int j t4]);generalize upd g1 L.fo (.list (f++[.int j t4]))=g2 at tL |-;clear c1 c2 d1;have c1:=tL.1;have' c2:_:=tL.4;have' c3:_:=tL.6;have' lw:_:=X.8.length;rw[List.length_map]at lw;w_fin;o_unpack qF;o_unpack G3;o_unpack jX;refine ao (jG (k:=((y:Nat):Int)) (by w_left) X.5 (ik _ _) b1 ?_);w_fin;refine ao (GI (r:=.h) tL.4 (ui b2) (z9 lw hw rfl) (z9 ly zy rfl) ?_);o_reads;have vm:=tL.pf (w++yy);generalize upd g2 L.wt (.list (w++yy))=g3 at vm |-;clear c1 c2 c3;have c1:=vm.1;have c2:=vm.6;w_fin;refine jK ?_;w_fin;o_unpack jX;refine ao (jG (k:=((x:Nat):Int)) (by w_left) X.5 (ik _ _) a1 ?_);w_fin;o_unpack jX;o_unpack KY;refine ao (J0 (r:=.h) (k:=((y:Nat):Int)) vm.6 X.5 (ik _ _) (by rfl) b1 (by have' this:_:=X.6;exact xL this small rfl) λes' D'=>?_);o_reads;have vn:=vm.mL es';generalize upd g3 L.ab (.dict es')=g4 at vn |-;clear c1 c2;have' c1:_:=vn.1;have' c2:_:=vn.6;w_fin;refine ao (JZ (r:=.v) (ui a2) (ui b2) (z9 lx zx rfl) (z9 ly zy rfl) λc9 DX=>?_);have mM:S.v c9=none:=DX .v;o_reads;w_fin;o_unpack jX;have kz:=X.6;have tM:=Y2 kvs (y:Int);have vx:valueAt (without kvs (y:Int)) (x:Int)=some (.ref ax):=by rewrite [qj];refine ae (if_neg (Ia cy)) ?_;exact a1
  refine ao (yP (r:=.h) (k:=((x:Nat):Int)) vn.6 D' (ik _ _) (Sz tM kz small rfl) λiG D''=>?_);o_reads;have' LR:_:=vn.mL iG;generalize upd g4 L.ab (.dict iG)=g5 at LR |-;w_fin;have LV:=xq (x:=x) py cy (aM dc hlen);refine⟨_,St.le_refl _,h2 x y aO hx hy k1 _ _ g5 _ cX (HR.mk' (U.1.mono cX) Uu1 (cX _ _ u1) LR ⟨?_,?_,X.3.mono cX,X.4,D'',?_,?_,?_⟩ (Xy hn rfl))⟩
  ·exact ae Ki (ae Kj (Ic ez LV))
  ·exact ae Ki (ae Kj (Ic fz LV))
  ·rewrite [qX];refine ae vx ?_;simp;exact bX tM kz
  ·have nK:∀(z:Int) q,valueAt kvs z=some (.ref q)->q≠c9:=λz q hz=>by
    refine xC (X.7.3 z _ hz) λq' o8 e1 e2=>?_;injection e1 with zz1;obtain rfl:=zz1;exact zD e2 mM
   have val:∀z:Int,valueAt (PySem.stored (without kvs (y:Int)) (x:Int) (.ref c9)) z=if z=x then some (.ref c9) else if z=y then none else valueAt kvs z:=λz=>by
    rw[jd,qj]
   refine⟨λc0 fU hl=>?_,λz z' q hz aS=>?_,λz q hz=>?_⟩
   ·rw[List.length_set]at hl;rw[ye _ _ _ _ (aM dc hlen)]at fU;have rQ:c0≠y:=λe=>by rw[if_pos e]at fU;exact SA fU cy e
    rw[if_neg rQ]at fU;rw[val];by_cases e:c0=x
    ·subst e;refine ae (if_pos rfl) ?_;rw[zz];refine⟨c9,_,rfl,za _ _ _,?_⟩;refine ae K2 ?_;exact IntsAre.append a3 b3
    ·refine ae (if_neg (XC e)) ?_;refine ae (if_neg (Ia rQ)) ?_;refine ae (ju _ _ e) ?_;refine jP (X.7.1 c0 fU hl) λq o8 e1 e2 e3=>?_;exact⟨q,o8,e1,(zb _ _ (zD e2 mM)).trans e2,e3⟩
   ·rw[val]at hz aS;split at hz <;> split at aS
    ·exact Ie ‹_› ‹_›
    ·rename_i e1 e2;injection hz with zz1;injection zz1 with zz2;obtain rfl:=zz2;split at aS
     ·injection aS
     ·exact absurd rfl (nK _ _ aS)
    ·rename_i e1 e2;injection aS with zz1;injection zz1 with zz2;obtain rfl:=zz2;split at hz
     ·injection hz
     ·exact absurd rfl (nK _ _ hz)
    ·split at hz
     ·injection hz
     ·split at aS
      ·injection aS
      ·exact X.7.2 _ _ _ hz aS
   ·rw[val]at hz;split at hz
    ·obtain rfl:=Option.some.inj hz;exact⟨c9,_,rfl,za _ _ _⟩
    ·split at hz
     ·injection hz
     ·refine xC (X.7.3 z _ hz) λq' o8 e1 e2=>?_;exact⟨q',o8,e1,(zb _ _ (zD e2 mM)).trans e2⟩
  ·refine ae K2 ?_;exact IntsAre.append X.8 b3
end
section
set_option genSizeOf false
set_option genInjectivity false
variable {B:Bs} {A:Around} {S:St}
variable {L:HL} {nds:List Nd} {ps:List (Nat × Nat)} {par:List Nat} {aj:List (List Nat)} {kn:List (Nd × Nat)} {us:Nat->List Nat} {wt:List Nat} {ne:Nat}
theorem HI.perm(H:HI nds ps par aj kn us wt)(p:wt.Perm fG):HI nds ps par aj kn us fG :=
 ⟨H.1,
 H.2,
 H.3,
 H.4,
 H.5,
 H.6,
 (λn nd hn hw=>H.7 n nd hn λq=>hw (p.mem_iff.mp q)),
 H.8,
 H.9,
 H.10,
 H.11,
 (λn hn=>H.12 n (p.mem_iff.mpr hn)),
 (by have' this:_:=H.13;refine aR p.length_eq ?_;exact this)⟩
theorem HR.more(U:HR B L k b u l h v nds par aj kn us wt ne)(h1:ne<=ne')(h2:ne'<=100000):HR B L k b u l h v nds par aj kn us wt ne' :=
 ⟨U.1,
 U.2,
 U.3,
 U.4,
 (by refine zt U.5 λe h3 h4=>?_;exact⟨e,h3,by exact Ig h4 h1⟩),
 (by refine zt U.6 λe h3 h4=>?_;exact⟨e,h3,by exact Ig h4 h1⟩),
 U.7,
 U.8,
 U.9,
 U.10,
 (h2)⟩
theorem Y7(R:zC 4 A)(U:HR B L S.k S.b S.u S.l S.h S.v nds par aj kn us wt ne)(H:HI nds ps par aj kn us (n::wt))(hn:ne<10000)(hi:nds[n]? = some nd)(h:∀k' u' l' h' v' par' aX dZ cw fG,S.k.le k'->HR B L k' S.b u' l' h' v' nds par' aX dZ cw fG ne->HI nds ps par' aX dZ cw fG->
   ((fG=wt/\j4 par'=j4 par)\/(j4 par'+1=j4 par/\∃y,y<nds.length/\par.getD y 0=y/\root par n<=y/\fG=wt++us y))->Q .none ⟨k',S.b,u',l',h',v',S.p,S.m⟩):
  V B A S (call (.ref 395) [.ref L.h,.int n t]) Q:=by
 refine zL (f:=395) (binds:=[("self",.ref L.h),("n",.int n t)]) (n:=3) (by delta Bs.K;k_is) (by kernel_rfl) R rfl (by rfl) (by kernel_rfl) ?_;intro A' env R' en;dsimp only at en;refine qM U.un λta e f w dX dY xs kvs HC X=>?_;have u1:=U.3;have hlen:=H.3;have' small:_:=H.1.1;have ku:=(Kb.mp hi).1;have c1:=HC.1;have' c2:_:=HC.5;have tN:=H.mJ;have' wz:wt.length<=300:=by have' this:_:=tN.2;rw[List.length_cons]at this;exact SD this
 w_fin;o_unpack Gj;o_unpack wX;o_unpack Z7;refine ao (Y3 R' U H.2 H.1 hlen hi λc k1 aU hN=>?_);o_reads;have v1:=aU _ _ u1;have U1:=U.mono aU;have xz:=X.4.len;w_fin;by_cases hm:∃m,(zF (root par) nd,m)∈kn
 ·refine aB hm λm hm=>?_;refine aB (X.4.get (X.3.mono aU) hm) λt1 LW=>?_;refine zJ (H.6 _ m hm) λZZ bK dx ZZ=>?_;have kJ:=(Kb.mp dx).1;refine ao (yv (r:=.h) (by have' this:_:=R'.2;refine(?_:_<9900);exact Ih this) HC.5 (X.3.mono aU) hN (Ii tN xz rfl) (λw' fH=>?_) (λfX=>?_))
  ·have' this:w' = .int (m:Nat) t1:=Option.some.inj (fH.symm.trans LW);subst this;w_fin;o_unpack jD;refine ao (jO (R'.less (jZ rfl)) U1 H.2 (aM kJ hlen) λt2=>?_);w_fin;o_unpack jD;refine ao (jO (R'.less (jZ rfl)) U1 H.2 (aM ku hlen) λt3=>?_);w_fin;refine ao (xc ?_);refine zc ?_;by_cases he:root par m=root par n
   ·have' cc:((((root par m:Nat):Int)) != ((root par n:Nat):Int))=false:=by refine ae he ?_;exact bne_self_eq_false _
    refine jf cc ?_;w_fin;exact⟨_,St.le_refl _,h k1 _ _ _ _ par aj kn us wt aU U1 (H.vg hi hm he) (.inl ⟨rfl,rfl⟩)⟩
   ·have' cc:((((root par m:Nat):Int)) != ((root par n:Nat):Int))=true:=bne_iff_ne.mpr (XA he);refine z7 cc ?_;w_fin;o_unpack Z8;refine zN ?_;w_fin;refine ze (Kv _) λc4 k2 bt LK ZZ=>?_;o_reads;w_fin;refine ao (Y6 R' (U1.mono bt) H wz hn kJ ku (λmN=>absurd mN he) (λx y ZZ hx hy k' u' l' h' v' aV U'=>?_));dsimp only[St.put,St.to,St.get]at aV |-;w_fin;have' mO:_:=Mp.le_trans aU (Mp.le_trans bt aV);have ri:=jL H.2.3 m;have rj:=jL H.2.3 n;have py:par.getD y 0=y:=by
     rcases(show y=root par m\/y=root par n by exact g6 hy) with e | e
     ·exact ae e (zq H.2.3 m)
     ·exact ae e (zq H.2.3 n)
    refine⟨_,St.le_refl _,h k' u' l' h' v' _ _ kn _ _ mO U' (H.vh hi hm he hx hy) (.inr ⟨?_,y,by exact H8 hy ri rj kJ ku,py,by exact SE hy,rfl⟩)⟩;exact(xq (x:=x) py (SF hx hy he) (SG hlen ku kJ hy ri rj)).symm
  ·rw[show(nd.1,(nd.2.map (root par)).map Int.ofNat)=bL (zF (root par) nd) from rfl,LW]at fX;injection fX
 ·have dx:∀m,(zF (root par) nd,m)∉kn:=λm q=>hm ⟨m,q⟩;have aH:=X.4.none dx;refine ao (yv (r:=.h) (by have' this:_:=R'.2;refine(?_:_<9900);exact Ih this) HC.5 (X.3.mono aU) hN (Ii tN xz rfl) (λw' fH=>?_) (λZZ es' D'=>?_))
  ·rw[show(nd.1,(nd.2.map (root par)).map Int.ofNat)=bL (zF (root par) nd) from rfl,aH]at fH;injection fH
  ·o_reads;have eP:=HC.vl es';generalize upd S.h L.kn (.dict es')=g1 at eP |-;clear c1 c2;have c1:=eP.1;have U2:HR B L k1 S.b S.u S.l g1 S.v nds par aj (kn++[(zF (root par) nd,n)]) us wt ne:=by
    refine HR.mk' U1.1 U1.2 v1 eP ⟨X.1,X.2,D',⟨?_,?_⟩,X.5,X.6,X.7,X.8⟩ U.11
    ·exact ae K2 (ae K2 (ae X.4.1 rfl))
    ·intro i z e' hz mN;by_cases eZ:i<xs.length
     ·rw[List.getElem?_append_left eZ]at hz;rw[List.getElem?_append_left (jx eZ xz)]at mN;exact X.4.2 i z e' hz mN
     ·have kq:=(Kb.mp hz).1;rw[List.length_append,List.length_singleton]at kq;have' rO:i=xs.length:=Zk kq xz eZ;subst rO;rw[List.getElem?_append_right (Nat.le_refl _),Nat.sub_self]at hz;rw[xz,List.getElem?_append_right (Nat.le_refl _),Nat.sub_self]at mN;obtain rfl:=Option.some.inj hz;obtain rfl:=Option.some.inj mN;exact⟨t,rfl⟩
   w_fin;o_unpack jD;refine ao (jO (R'.less (jZ rfl)) U2 H.2 (aM ku hlen) λt2=>?_);w_fin;o_unpack jD;refine ao (jO (R'.less (jZ rfl)) U2 H.2 (aM ku hlen) λt3=>?_);w_fin;refine ao (xc ?_);refine zc ?_;have' cc:((((root par n:Nat):Int)) != ((root par n:Nat):Int))=false:=(bne_self_eq_false _);refine jf cc ?_;w_fin;exact⟨_,St.le_refl _,h k1 _ _ _ _ par aj _ us wt aU U2 (H.learn hi dx) (.inl ⟨rfl,rfl⟩)⟩
theorem zag(R:zC 4 A)(U:HR B L S.k S.b S.u S.l S.h S.v nds par aj kn us wt ne)(H:HI nds ps par aj kn us wt)(hn:ne<10000)(ha:a<nds.length)(hb:b<nds.length)(h:∀r k' u' l' h' v' par' aX cw fG,S.k.le k'->HR B L k' S.b u' l' h' v' nds par' aX kn cw fG (ne+1)->HI nds (ps++[(a,b)]) par' aX kn cw fG->Q r ⟨k',S.b,u',l',h',v',S.p,S.m⟩):
  V B A S (call (.ref 416) [.ref L.h,.int a t,.int b u,rs]) Q:=by
 refine zL (f:=416) (binds:=[("self",.ref L.h),("a",.int a t),("b",.int b u),("reason",rs)]) (n:=3) (by delta Bs.K;k_is) (by kernel_rfl) R rfl (by rfl) (by kernel_rfl) ?_;intro A' env R' en;dsimp only at en;refine aB U.4 λta u2=>?_;have' u1:_:=U.3;w_fin;o_unpack Z8;refine ao (Y6 R' U H H.mJ.2 hn ha hb (λhe k' h' le U'=>?_) (λx y he hx hy k' u' l' h' v' le U'=>?_))
 ·w_means;exact⟨_,St.le_refl _,h _ k' _ _ h' _ par aj us wt le U' (H.told ha hb he (λp q=>Ko.mpr (.inl q)) λp q=>by
   rcases Ko.mp q with q | q
   ·exact .inl q
   ·exact .inr (Kf.mp q))⟩
 ·w_means;exact⟨_,St.le_refl _,h _ k' u' l' h' v' _ _ _ _ le (U'.more (Lq _) (Zl hn rfl)) (H.merge ha hb he hx hy (λp q=>Ko.mpr (.inl q)) (λp q=>by
   rcases Ko.mp q with q | q
   ·exact .inl q
   ·exact .inr (Kf.mp q)) (.pair (Ko.mpr (.inr (.head _)))))⟩
theorem Gu(R:zC 5 A)(U:HR B L S.k S.b S.u S.l S.h S.v nds par aj kn us wt ne)(H:HI nds ps par aj kn us wt)(hn:ne<10000)(h:∀k' u' l' h' v' par' aX dZ cw,S.k.le k'->HR B L k' S.b u' l' h' v' nds par' aX dZ cw [] ne->HI nds ps par' aX dZ cw []->Q .none ⟨k',S.b,u',l',h',v',S.p,S.m⟩):
  V B A S (call (.ref 430) [.ref L.h]) Q:=by
 refine zL (f:=430) (binds:=[("self",.ref L.h)]) (n:=4) (by delta Bs.K;k_is) (by kernel_rfl) R rfl (by rfl) (by kernel_rfl) ?_;intro A' env R' en;dsimp only at en;refine yq ?_;intro _ _ _ _
 let Inv1:Nat->Vs->St->Prop:=λm vs' S'=>IC λk' u' l' h' v' par' aX dZ cw fG=>A6 (S'=⟨k',S.b,u',l',h',v',S.p,S.m⟩) (vs'=([("self",.ref L.h)]:Vs)) (S.k.le k') (HR B L k' S.b u' l' h' v' nds par' aX dZ cw fG ne) (HI nds ps par' aX dZ cw fG) (m=30*j4 par'+fG.length)
 refine wx Inv1 _ ⟨_,_,_,_,_,par,aj,kn,us,wt,rfl,rfl,Mp.le_refl _,U,H,rfl⟩ ?_;rintro m vs' S' ⟨k',u',l',h',v',par',aX,dZ,cw,fG,rfl,rfl,le,U',H',rfl⟩;refine qM U'.un λta e f w dX dY xs kvs HC X=>?_;have u1:=U'.3;have c1:=HC.1;have c2:=HC.4;have lw:=X.8.length;rw[List.length_map]at lw;have wz:=H'.mJ.2;w_fin;o_unpack yo;o_unpack qF;refine ao (zI (by w_left) (tu (Ks (Kc lw) (Ks wz (by decide)))) λt3=>?_);refine ae lw ?_;w_fin;refine ao (Wb ?_);refine zc ?_;cases hw:fG.reverse with
 | nil =>
  have' fH:fG=[]:=by have' this:_:=congrArg List.reverse hw;simpa using this
  subst fH;simp only[List.length_nil,Int.ofNat_zero,Int.lt_irrefl,decide_false,Bool.false_eq_true,if_false];w_fin;exact⟨_,St.le_refl _,h k' u' l' h' v' par' aX dZ cw le U' H'⟩
 | cons n r =>
  have' fH:fG=r.reverse++[n]:=by have' this:_:=congrArg List.reverse hw;simpa using this
  generalize r.reverse=vo at fH;clear hw;subst fH;have cc:decide ((0:Int)<((vo++[n]).length:Nat))=true:=decide_eq_true (ae Ki (ae Kj SH));refine z7 cc ?_;have hnv:n<nds.length:=H'.12 n (Vh _ (.head _));have' pg:∃w0 t0,w=w0++[.int (n:Nat) t0]/\IntsAre w0 (vo.map Int.ofNat):=by
   have' hx:_:=X.8;rw[List.map_append]at hx;clear c2;clear HC;clear X;have' key:∀(a:List Int) (vs:List Value),IntsAre vs (a++[((n:Nat):Int)])->∃w0 t0,vs=w0++[.int (n:Nat) t0]/\IntsAre w0 a:=by
    intro a;induction a with
    | nil =>
     intro vs hv;refine j8 hv.cons_inv λt0 vs' bR fY=>?_;obtain rfl:=bR;obtain rfl:=fY.nil_inv;exact⟨[],t0,rfl,.nil⟩
    | cons z a ih =>
     intro vs hv;refine j8 hv.cons_inv λt0 vs' bo fY=>?_;obtain rfl:=bo;refine j8 (ih vs' fY) λw0 t1 bG h0=>?_;obtain rfl:=bG;exact⟨.int z t0::w0,t1,rfl,.cons _ t0 h0⟩
   exact key _ _ hx
  refine j8 pg λw0 t0 cA tJ=>?_;obtain rfl:=cA;w_fin;o_unpack ga;o_unpack qF;o_unpack zlI;have LX:=tJ.length;rw[List.length_map]at LX;refine ao (Wc (r:=.h) HC.4 (by rw[List.length_append,List.length_singleton]at wz;exact SJ wz LX rfl) ?_);o_reads;have' eP:_:=HC.pf w0;generalize upd h' L.wt (.list w0)=g1 at eP |-;have U2:HR B L k' S.b u' l' g1 v' nds par' aX dZ cw vo ne:=HR.mk' U'.1 U'.2 u1 eP ⟨X.1,X.2,X.3,X.4,X.5,X.6,X.7,tJ⟩ U'.11;have H2:HI nds ps par' aX dZ cw (n::vo):=H'.perm (by simpa using List.perm_append_comm (l₁:=vo) (l₂:=[n]));w_fin;refine ao (Y7 R' U2 H2 hn (Ka hnv) λk2 u2 l2 h2 v2 oh mP DY tO LY bt U3 H3 DZ=>?_);w_fin;refine⟨30*j4 oh+LY.length,?_,k2,u2,l2,h2,v2,oh,mP,DY,tO,LY,rfl,rfl,Mp.le_trans le bt,U3,H3,rfl⟩;refine ae Ki ?_;refine ae Kj ?_;rcases DZ with ⟨rfl,e2⟩ | ⟨e1,y,hy,py,_,rfl⟩
  ·exact SK e2
  ·have' this:_:=H'.fV py hy;exact ae Ki (SM e1 this)
end
section
set_option genSizeOf false
set_option genInjectivity false
variable {B:Bs} {A:Around} {S:St}
variable {L:HL} {nds:List Nd} {ps:List (Nat × Nat)} {par:List Nat} {aj:List (List Nat)} {kn:List (Nd × Nat)} {us:Nat->List Nat} {wt:List Nat} {ne:Nat}
theorem Zc.app{v:Mp}{kvs:List (Int × Value)}(Z:Zc v par kvs us){c n:Nat}{t:Tok}{a:Addr}{xs:List Value}(hv:valueAt kvs (c:Int)=some (.ref a))(ha:v a=some (.list xs))(hx:IntsAre xs ((us c).map Int.ofNat)):
  Zc (upd v a (.list (xs++[.int (n:Nat) t]))) par kvs (qa us c (us c++[n])):=by
 refine⟨λc0 h1 h2=>?_,Z.2,λz w hz=>?_⟩
 ·by_cases e:c0=c
  ·subst e;rw[zz];exact⟨a,_,hv,za _ _ _,ae K2 (IntsAre.append hx (.cons _ t .nil))⟩
  ·refine ae (ju _ _ e) ?_;refine jP (Z.1 c0 h1 h2) λq ys h3 h4 h5=>?_;have' this:q≠a:=λe'=>by
    subst e';have' this:_:=Z.2 _ _ _ h3 hv;exact SN this e
   exact⟨q,ys,h3,(zb _ _ this).trans h4,h5⟩
 ·refine xC (Z.3 z w hz) λq ys h3 h4=>?_;by_cases e:q=a
  ·subst e;exact⟨q,_,h3,za _ _ _⟩
  ·exact⟨q,ys,h3,(zb _ _ e).trans h4⟩
theorem Zc.new{v:Mp}{kvs:List (Int × Value)}(Z:Zc v par kvs us){a:Addr}(ha:v a=none):Zc (upd v a (.list [])) (par++[par.length]) (PySem.stored kvs ((par.length:Nat):Int) (.ref a)) (qa us par.length []):=by
 have nK:∀(z:Int) q,valueAt kvs z=some (.ref q)->q≠a:=λz q hz=>by
  refine xC (Z.3 z _ hz) λq' o8 e1 e2=>?_;injection e1 with zz1;obtain rfl:=zz1;exact zD e2 ha
 refine⟨λc h1 h2=>?_,λc c' q h1 h2=>?_,λz w hz=>?_⟩
 ·rw[jd];by_cases e:c=par.length
  ·subst e;refine ae (if_pos rfl) ?_;rw[zz];exact⟨a,[],rfl,za _ _ _,.nil⟩
  ·rw[List.length_append,List.length_singleton]at h2;rw[zQ _ _ _ (xB h2 e)]at h1;refine ae (if_neg (SQ h2 e)) ?_;refine ae (ju _ _ e) ?_;refine jP (Z.1 c h1 (xB h2 e)) λq ys h3 h4 h5=>?_;exact⟨q,ys,h3,(zb _ _ (zD h4 ha)).trans h4,h5⟩
 ·rw[jd]at h1 h2;split at h1 <;> split at h2
  ·exact Ie ‹_› ‹_›
  ·injection h1 with zz1;injection zz1 with zz2;obtain rfl:=zz2;exact absurd rfl (nK _ _ h2)
  ·injection h2 with zz1;injection zz1 with zz2;obtain rfl:=zz2;exact absurd rfl (nK _ _ h1)
  ·exact Z.2 _ _ _ h1 h2
 ·rw[jd]at hz;split at hz
  ·obtain rfl:=Option.some.inj hz;exact⟨a,_,rfl,za _ _ _⟩
  ·refine xC (Z.3 z w hz) λq ys h3 h4=>?_;exact⟨q,ys,h3,(zb _ _ (zD h4 ha)).trans h4⟩
noncomputable def il(us:Nat->List Nat)(n:Nat)(done:List Nat):Nat->List Nat:=λc=>if c=n then [] else if c∈done then us c++[n] else us c
theorem zkm(us:Nat->List Nat)(n:Nat):il us n []=qa us n []:=by
 funext c
 rfl
theorem zeu(h1:c∉done)(h2:c≠n):qa (il us n done) c (il us n done c++[n])=il us n (done++[c]):=by
 funext d
 unfold qa;by_cases e:d=c
 ·subst e;refine ae (if_pos rfl) ?_;unfold il;simp[h1,h2]
 ·refine ae (if_neg e) ?_;unfold il;simp[e]
theorem BI.snoc(I:BI nds)(hz:nds.length<12)(hx:xt x)(h2:ns.length<=2)(hk:∀k∈ns,k<nds.length)(hn:(x,ns)∉nds):BI (nds++[(x,ns)]) :=
 ⟨(ae Ki (ae Kj (Oy hz))),
 (λnd h=>by
  rcases Ko.mp h with h | h
  ·exact I.2 nd h
  ·exact ae (Kf.mp h) hx),
 (λi nd h j hj=>by
  by_cases e:i<nds.length
  ·rw[List.getElem?_append_left e]at h;exact I.3 i nd h j hj
  ·have h4:=(Kb.mp h).1;rw[List.length_append,List.length_singleton]at h4;have' this:i=nds.length:=qZ h4 e;subst this;rw[List.getElem?_append_right (Nat.le_refl _),Nat.sub_self]at h;obtain rfl:=Option.some.inj h;exact hk j hj),
 (λnd h=>by
  rcases Ko.mp h with h | h
  ·exact I.4 nd h
  ·exact ae (Kf.mp h) h2),
 (by
  rw[List.nodup_append];exact⟨I.5,(Ll _ _),λa ha b hb e=>hn (aR (Kf.mp hb) (aR e ha))⟩)⟩
theorem Xp(R:zC 5 A)(U:HR B L S.k S.b S.u S.l S.h S.v nds par aj kn us [] ne)(H:HI nds ps par aj kn us [])(hn:ne<9000)(hx:xt x)(hr:S.k tk=some (.tup r))(hI:IntsAre r (ns.map Int.ofNat))(h2:ns.length<=2)(aC:∀j∈ns,j<nds.length)(bY:nds.length<12)(hold:∀(i:Nat) t k',nds[i]? = some (x,ns)->S.k.le k'->Q (.int i t) (S.to .k k'))(eY:(x,ns)∉nds->∀t k' b' u' l' h' v' par' aX dZ cw,S.k.le k'->HR B L k' b' u' l' h' v' (nds++[(x,ns)]) par' aX dZ cw [] (ne+1)->HI (nds++[(x,ns)]) ps par' aX dZ cw []->Q (.int nds.length t) ⟨k',b',u',l',h',v',S.p,S.m⟩):
  V B A S (call (.ref 383) [.ref L.h,.str x t0,.ref tk]) Q:=by
 refine zL (f:=383) (binds:=[("self",.ref L.h),("op",.str x t0),("numbers",.ref tk)]) (n:=4) (by delta Bs.K;k_is) (by kernel_rfl) R rfl (by rfl) (by kernel_rfl) ?_;intro A' env R' en;dsimp only at en;refine qM U.un λta e f w dX dY xs kvs HC X=>?_;have u1:=U.3;have u3:=U.2.1;have u4:=U.2.2;have' u5:_:=U.1.1;have' u6:_:=U.1.2;have hlen:=H.3;have c1:=HC.1;have lr:=hI.length;rw[List.length_map]at lr;w_fin;o_unpack qQ;o_unpack G5;refine ao (zcJ (R'.less (jZ rfl)) U.1 H.1 hx hr hI h2 aC (λi t k1 hi aU=>?_) λdS=>⟨bY,λt k1 b1 aU Ub=>?_⟩)
 ·o_reads;have' v1:_:=aU _ _ u1;have' v3:_:=aU _ _ u3;have' kN:_:=(Kb.mp hi).1;w_fin;o_unpack jN;o_unpack gW;refine ao (Y1 (R'.less (by decide)) (U.2.mono aU) H.2 λt1=>?_);w_fin;refine ao (xa ?_);refine zc ?_;have' cc:decide (((i:Nat):Int)<((par.length:Nat):Int))=true:=decide_eq_true (SR kN hlen);refine z7 cc ?_;w_fin;exact⟨_,St.le_refl _,hold i t k1 hi aU⟩
 ·have v1:=aU _ _ u1;have v3:=aU _ _ u3;w_fin;o_unpack jN;o_unpack gW;refine ao (Y1 (R'.less (by decide)) (U.2.mono aU) H.2 λt1=>?_);w_fin;refine ao (xa ?_);refine zc ?_;have' cc:decide (((nds.length:Nat):Int)<((par.length:Nat):Int))=false:=decide_eq_false (SU hlen);refine jf cc ?_;w_fin;o_unpack jN;o_unpack QS;refine ao (zcG (R'.less (by decide)) (U.2.mono aU) H.2 (CP hlen bY) λt2 u' l' Uu=>?_);dsimp only[St.put,St.to,St.get]at Uu |-;w_fin;refine jK ?_;refine jM ?_;w_fin;refine jr .v (Kt _) λa ha=>?_;have' iD:S.v a=none:=ha .v;o_reads;have Z1:=X.7.new iD;generalize upd S.v a (.list [])=v2 at Z1 |-;have' c2:_:=HC.6;w_fin;o_unpack jX;have kz:=X.6;refine ao (yP (r:=.h) (k:=((nds.length:Nat):Int)) HC.6 X.5 (ik _ _) (Ij kz bY rfl) λes' D'=>?_);o_reads;have eP:=HC.mL es';generalize upd S.h L.ab (.dict es')=g1 at eP |-;rw[hlen,<-zkm]at Z1;have tM:(PySem.stored kvs ((nds.length:Nat):Int) (.ref a)).length<=nds.length+1:=by
   rw[qX];split;exact Mu kz;exact L9 kz
  generalize PySem.stored kvs ((nds.length:Nat):Int) (.ref a)=D0 at D' Z1 tM;have' hur:HR B L k1 b1 u' l' g1 v2 (nds++[(x,ns)]) (par++[par.length]) (aj++[[par.length]]) kn (il us nds.length []) [] (ne+1):=by
   refine HR.mk' Ub Uu v1 eP ⟨?_,?_,X.3.mono aU,X.4,D',?_,ae hlen Z1,X.8⟩ (Zl hn rfl)
   ·have' this:_:=X.1;rw[yC];exact XD this
   ·have' this:_:=X.2;rw[yC];exact XD this
   ·exact ae Ki (ae Kj tM)
  have' ro:∀i,i<nds.length->root (par++[par.length]) i=root par i:=λi hi=>gC H.2.3 (aM hi hlen);have' I2:_:=H.2.make (CP hlen bY);clear c1 c2;have c1:=eP.1;w_fin
  let Inv1:(Addr × { r:List Value // r.length<=1000000 })->Nat->Vs->St->Prop:=λj i vs' S'=>∃ms:List Nat,A4 (IntsAre j.2.1 (ms.map Int.ofNat)) ms.Nodup (∀c,c∈ms↔∃k∈ns,root par k=c) (E2 λk3 v3=>A5 (S'=⟨k3,b1,u',l',g1,v3,S.p,S.m⟩) (k1.le k3) (k3 j.1=some (.list j.2.1)) (Zc v3 (par++[par.length]) D0 (il us nds.length (ms.take i))) (∃w,vs'=([("self",.ref L.h),("op",.str x t0),("numbers",.ref tk),("n",.int nds.length t)]:Vs)++w/\(w=[]\/∃v,w=[(("c":Str),v)])))
  refine qi (λj:Addr × { r:List Value // r.length<=1000000 }=>(zf B j.1 j.2.1).src) Inv1 R'.3 (zY (λj:Addr × { r:List Value // r.length<=1000000 }=>zf B j.1 j.2.1) ?_) (λj=>zr _ en (by rfl) (.inl rfl)) ?_ ?_ ?_
  ·w_fin;o_unpack y8;o_unpack Xl
   let Inv2:(Unit)->Nat->St->List Value->Prop:=λj i S' l=>∃k4,A3 (S'=⟨k4,b1,u',l',g1,v2,S.p,S.m⟩) (k1.le k4) (IntsAre l (((ns.take i).map (root par)).map Int.ofNat))
   refine zG .k (λj:Unit=>(jp B tk r).src) [("self",.ref L.h)]
    Inv2 en (by kernel_rfl) ⟨by decide,rfl,trivial⟩ R'.3 (λj=>by refine(?_:r.length<=_);exact z9 lr h2 rfl) (zY (λj:Unit=>jp B tk r) ?_) (λj env2 bq=>zr _ bq (by rfl) (.inr (by rfl))) ?_ ?_ ?_ ?_
   ·w_fin;exact⟨(),rfl,gk (aU _ _ hr),rfl,k1,rfl,Mp.le_refl _,by simpa using .nil⟩
   ·intro j i S' l bZ;refine gL bZ λk4 bo aG hl=>?_;obtain rfl:=bo;exact gk (aG _ _ (aU _ _ hr))
   ·intro j i S' vs' bg iC;refine zJ iC λcA v ZZ cj=>?_;obtain rfl:=cA;obtain rfl:=cj;exact Vs.Sub.set rfl
   ·intro j env2 bq i S' l vs' bg aQ eV;refine gL eV λk4 dy aG hl=>?_;obtain rfl:=dy;intro ml;refine zJ ml λeC v hv iH=>?_;obtain rfl:=eC;obtain rfl:=iH;have aA:i<ns.length:=by have' this:i<r.length:=aQ;exact jx this lr
    refine aB (jk hI aA) λt6 iM=>?_;have' ev:v = .int (ns.getD i 0:Nat) t6:=Option.some.inj (hv.symm.trans iM);subst ev;have cO:ns.getD i 0<nds.length:=aC _ (by refine ae Kh ?_;refine ae (Ka aA) ?_;exact Ky aA);have' w1:_:=aG _ _ v1;dsimp only[jA,zi];refine z7 rfl ?_;w_fin;o_unpack jD;refine ao (jO (R'.less (jZ rfl)) (hur.mono aG) I2 (ae Ki (ae Kj (Ik cO hlen))) λt7=>?_);refine⟨Vs.Sub.refl _,k4,rfl,aG,?_⟩;refine ae (ro _ cO) ?_;refine ae Lu ?_;refine ae (Ka aA) ?_;simp only[Option.toList_some,List.map_append,List.map_cons,List.map_nil];have' e:ns.getD i 0=ns[i]:=by refine ae Kh ?_;refine ae (Ka aA) ?_;rfl
    refine aR e ?_;exact IntsAre.append hl (.cons _ t7 .nil)
   ·intro j S' l D D2;refine gL D2 λk4 mQ aG hl=>?_;obtain rfl:=mQ;intro aH;have' e:(jp B tk r).src.n=ns.length:=lr;rw[e,List.take_length]at hl;have' bC:k4 D=none:=aH .k;o_reads;have' aP:k4.le (upd k4 D (.list l)):=Mp.av bC;have' hD:_:=za k4 D (.list l);generalize upd k4 D (.list l)=k5 at aP hD |-;have LZ:∀z∈(ns.map (root par)),z<nds.length:=λz hz=>by
     refine zV (Kr.mp hz) λk hk iK=>?_;obtain rfl:=iK;exact H.bj (aC k hk)
    w_fin;refine ao (wd (r:=.k) (U:=(List.range nds.length).map Int.ofNat) R'.3 (gk hD) (.inl rfl) hl (Zd LZ) (by simp;exact Xy bY rfl) λa2 eu t3 cC I3 hm=>?_);have' mK:k5 a2=none:=cC .k;o_reads;have' aZ:k5.le (upd k5 a2 (.set eu t3)):=Mp.av mK;have' uW:_:=za k5 a2 (.set eu t3);generalize upd k5 a2 (.set eu t3)=k6 at aZ uW |-;w_fin;have bT:eu.length<=15:=by
     rw[<-zP];have' this:_:=jb (U:=(List.range nds.length).map Int.ofNat) I3.3 λz hz=>Zd LZ z ((hm z).mp hz);simp at this;exact Ij this bY rfl
    refine ao (yj (r:=.k) R'.3 (gk uW) I3.2 I3.1 (zS bT rfl) λc out bJ kO Bz hp hs=>?_);have' vp:k6 c=none:=kO .k;have rR:∀z∈bJ,0<=z:=λz hz=>by
     refine zV (Kr.mp ((hm z).mp (hp.mem_iff.mp hz))) λx ZZ iP=>?_;obtain rfl:=iP;exact Mo _
    obtain⟨ms,rfl⟩:=Gs rR;have' bO:k6.le (upd k6 c (.list out)):=Mp.av vp;have iO:=za k6 c (.list out);o_reads;generalize upd k6 c (.list out)=k7 at bO iO |-;have lo:=Bz.length;have lp:=hp.length_eq;rw[List.length_map]at lo lp;rw[zP]at lp;refine⟨(c,⟨out,by exact JV lo lp bT rfl⟩),rfl,gk iO,ms,Bz,?_,λz=>?_,k7,v2,rfl,Mp.le_trans aG (Mp.le_trans aP (Mp.le_trans aZ bO)),iO,ae hlen Z1,[],rfl,.inl rfl⟩
    ·exact(List.pairwise_map.mp (hp.nodup_iff.mpr I3.3)).imp λh e=>h (congrArg Int.ofNat e)
    ·rw[<-xg,hp.mem_iff,hm,xg,List.mem_map]
  ·rintro j i vs' S' ⟨ms,iQ,_,_,k3,v3,rfl,aV,dA,_⟩;exact gk dA
  ·rintro j i vs' S' cW bg aQ ⟨ms,iQ,bB,kM,k3,v3,rfl,aV,dA,Z,w,rfl,hw⟩ rS;refine zJ rS λmC v hv mR=>?_;obtain rfl:=mC;obtain rfl:=mR;have' mS:_:=iQ.length;rw[List.length_map]at mS;have aA:i<ms.length:=by have' this:i<j.2.1.length:=aQ;exact jx this mS
   refine aB (jk iQ aA) λt8 oj=>?_;have' ev:v = .int (ms.getD i 0:Nat) t8:=Option.some.inj (hv.symm.trans oj);subst ev;have' ew:zi (([("self",.ref L.h),("op",.str x t0),("numbers",.ref tk),("n",.int nds.length t)]:Vs)++w) "c" (.int (ms.getD i 0:Nat) t8)=([("self",.ref L.h),("op",.str x t0),("numbers",.ref tk),("n",.int nds.length t),("c",.int (ms.getD i 0:Nat) t8)]:Vs):=by
    rcases hw with rfl | ⟨v,rfl⟩ <;> rfl
   refine ae ew ?_;have e9:ms.getD i 0=ms[i]:=by refine ae Kh ?_;refine ae (Ka aA) ?_;rfl
   have' ck:ms.getD i 0∈ms:=ae e9 (Ky aA);refine zt ((kM _).mp ck) λk hk mU=>?_;have eD:ms.getD i 0<nds.length:=aR mU (H.bj (aC k hk));have' rT:(par++[par.length]).getD (ms.getD i 0) 0=ms.getD i 0:=by
    exact ae (zQ _ _ _ (aM eD hlen)) (aR mU (zq H.2.3 k))
   refine jP (Z.1 _ rT (ae Ki (ae Kj (Ik eD hlen)))) λq ys q1 q2 q3=>?_;have mV:ms.getD i 0∉ms.take i:=by
    refine ae e9 ?_;intro hh;refine Ja (Me.mp hh) λp vq tP=>?_;rw[List.getElem_take]at tP;rw[List.length_take]at vq;have MA:p<ms.length:=SV vq aA;have' h1:ms[p]? = ms[i]?:=by refine ae (Ka MA) ?_;refine ae (Ka aA) ?_;refine ae tP ?_;rfl
    have' this:_:=(Mx MA bB).mp h1;exact SW vq this aA
   have' w1:_:=aV _ _ v1;have' MB:_:=q3.length;have' lus:((il us nds.length (ms.take i)) (ms.getD i 0)).length<=25:=by
    unfold il;refine ae (if_neg (Zi eD)) ?_;refine ae (if_neg mV) ?_;have' this:_:=H.fV (c:=ms.getD i 0) (aR mU (zq H.2.3 k)) eD;exact zS this rfl
   rw[List.length_map]at MB;w_fin;o_unpack jX;refine ao (jG (k:=((ms.getD i 0:Nat):Int)) (gh eP.6) D' (ik _ _) q1 ?_);o_unpack jS;w_fin;refine ao (jR (r:=.v) q2 (z9 MB lus rfl) ?_);o_reads;w_fin;refine⟨ms,iQ,bB,kM,k3,_,rfl,aV,dA,?_,[(("c":Str),.int (ms.getD i 0:Nat) t8)],rfl,.inr ⟨_,rfl⟩⟩;have' Z2:_:=Z.app (n:=nds.length) (t:=t) q1 q2 q3;rw[zeu mV (HW eD)]at Z2;have' rU:ms.take i++[ms.getD i 0]=ms.take (i+1):=by
    refine ae Lu ?_;refine ae (Ka aA) ?_;refine ae e9 ?_;rfl
   rw[rU]at Z2;exact Z2
  ·rintro j vs' S' ⟨ms,iQ,bB,kM,k3,v3,rfl,aV,dA,Z,w,rfl,hw⟩;have' mS:_:=iQ.length;rw[List.length_map]at mS;have' vr:ms.take (zf B j.1 j.2.1).src.n=ms:=by
    have' this:(zf B j.1 j.2.1).src.n=ms.length:=mS;exact ae this (ae Mc rfl)
   rw[vr]at Z;w_means;refine jT (vs':=[("self",.ref L.h),("op",.str x t0),("numbers",.ref tk),("n",.int nds.length t)]) (λy v h=>?_) ?_
   ·rcases hw with rfl | ⟨v,rfl⟩
    ·exact h
    ·exact Vs.Sub.set (x:="c") (v:=v) rfl y _ h
   have w1:=aV _ _ v1;have' hB:_:=H.1.snoc bY hx h2 aC dS;have' hG:HI (nds++[(x,ns)]) ps (par++[par.length]) (aj++[[par.length]]) kn (il us nds.length ms) (nds.length::[]):=by
    refine H.grow hB bY dS (λc hc hk=>?_) (λc hc hk=>?_) ?_
    ·unfold il;refine ae (if_neg (Zi hc)) ?_;refine ae (if_pos ((kM c).mpr hk)) ?_;rfl
    ·unfold il;refine ae (if_neg (Zi hc)) ?_;refine ae (if_neg (λq=>hk ((kM c).mp q))) ?_;rfl
    ·unfold il;refine ae (if_pos rfl) ?_;rfl
   have' U9:HR B L k3 b1 u' l' g1 v3 (nds++[(x,ns)]) (par++[par.length]) (aj++[[par.length]]) kn (il us nds.length ms) [] (ne+1):=by
    refine HR.mk' (Ub.mono aV) (Uu.mono aV) w1 eP ⟨?_,?_,X.3.mono (Mp.le_trans aU aV),X.4,D',?_,Z,X.8⟩ (Zl hn rfl)
    ·have' this:_:=X.1;rw[yC];exact XD this
    ·have' this:_:=X.2;rw[yC];exact XD this
    ·exact ae Ki (ae Kj tM)
   w_fin;o_unpack ga;refine ao (Y7 (nd:=(x,ns)) (R'.less Ov) U9 hG (SX hn rfl) List.getElem?_concat_length λk5 u5 l5 h5 v5 D5 vt kn5 MC wt5 aP U10 H10 DZ=>?_);dsimp only[St.put,St.to,St.get]at aP |-;w_fin;have' hwt:wt5=[]:=by
    rcases DZ with ⟨e1,_⟩ | ⟨_,y,hy,_,uU,e1⟩
    ·exact e1
    ·rw[<-hlen,w8,hlen]at uU;rw[List.length_append,List.length_singleton]at hy;have' this:y=nds.length:=SY hy uU;refine ae e1 ?_;refine ae this ?_;unfold il;exact ae (if_pos rfl) rfl
   subst hwt;exact⟨_,St.le_refl _,eY dS t k5 b1 u5 l5 h5 v5 D5 vt kn5 MC (Mp.le_trans aU (Mp.le_trans aV aP)) U10 H10⟩
end
section
set_option genSizeOf false
set_option genInjectivity false
section
variable {α β γ:Type} {B:Bs} {A:Around} {own:Bool} {env:Env} {vs:Vs} {S:St}
theorem yD(h:∀a,S.no a->Q (.ref a) vs (S.put r a (.dict []))):W B A own env vs S (eval (.Dict [] [] pos) env) Q:=ao (Q:=Q) λX s o =>
 wpAny_Dict_empty ⟨_,o.new (r:=r) (c':=.dict []) o.lt.1 o.lt.2 (λb ob q e=>Ke _ q) ⟨Q5 [] 0,Kl _ rfl,0,rfl⟩ _ rfl rfl rfl,h _ o.lt.1⟩
/-! dict mW,of int keys -/
noncomputable def zev(B:Bs)(h:Heap)(D:Addr)(l:List (Int × Value)):Prop:=l.length<=1000000/\h.DictOf (intKind B.prog B.w) D l
noncomputable def zkn(B:Bs):C4 B (List (Int × Value)) where
 obj:=Q5 [] 0
 nil:=[]
 P:=zev B
 free:=rfl
 keep:=λzp q=>by obtain⟨z,o,es,ep,e,r⟩:=zp;exact⟨z,o,es,ep,q.trans e,r⟩
 start:=fun {h D} e=>⟨Kt _,by
  refine Zh (Heap.DictOf.new (knd:=intKind B.prog B.w) (h:=h)) λo es ep e1 r=>?_;rw[Heap.get?_push_size _ rfl]at e1;obtain rfl:=Option.some.inj e1;exact⟨_,es,ep,e,r⟩⟩
theorem zah{kx vx:Expr}{D:Addr}{n:Nat}{l:List (Int × Value)}{Inv:St->List (Int × Value)->Prop}{vs':Vs}(hl:l.length<n)(hn:n<=1000000)(h:W B A own env vs S (eval kx env) (λy bf S₁=>∃z t,y = .int z t/\W B A own env bf S₁ (eval vx env) (λv aD S₃=>vs'.Sub aD/\Inv S₃ (stored l z v)))):
  ∀X s,Ok B S X s->zA own env vs S X s->zE [D] env S X->zev B s.heap D l->wpAny (model B.prog B.w) A (JN kx vx D env) (λZZ s'=>∃aD S₃ l',Ok B S₃ X s'/\zA own env aD S₃ X s'/\vs'.Sub aD/\zev B s'.heap D l'/\(Inv S₃ l'/\l'.length<=l.length+1)/\zE [D] env S₃ X) cf s:=by
 intro X s o f sD hP;refine bE hP λhz hD=>?_;have' th:∀a∈[D],∃ob,s.heap.get? a=some ob:=λa m=>by
  refine Zn hD λob ZZ ZZ e ZZ=>?_;exact ae (Kf.mp m) ⟨_,e⟩
 refine wpAny_bind (wpAny_mono (h _ _ (o.hide sD.2) (f.hide sD _)) (λy s₁ q=>?_) λZZ ZZ e=>e);obtain⟨bf,S₁,k₁,f₁,z,t,rfl,q⟩:=q;refine bE (sD.aE th k₁) λcB fM=>?_;replace k₁:=o.aE k₁;replace f₁:=f₁.aE sD;have ph:s₁.heap.DictOf (intKind B.prog B.w) D l:=by
  refine Zh hD λob es ep e r=>?_;exact⟨ob,es,ep,(fM D (.head _)).trans e,r⟩
 have' vu:∀a∈[D],∃ob,s₁.heap.get? a=some ob:=λa m=>by
  refine Zn ph λob ZZ ZZ e ZZ=>?_;exact ae (Kf.mp m) ⟨_,e⟩
 refine wpAny_bind (wpAny_holding (wpAny_mono (q _ _ (k₁.hide cB.2) (f₁.hide cB _)) (λv s₂ q=>?_) λZZ ZZ e=>e));obtain⟨aI,S₂,k₂,f₂,sb,hI⟩:=q;refine bE (cB.aE vu k₂) λdO vw=>?_;replace k₂:=k₁.aE k₂;replace f₂:=f₂.aE cB;have' vy:s₂.heap.DictOf (intKind B.prog B.w) D l:=by
  refine Zh ph λob es ep e r=>?_;exact⟨ob,es,ep,(vw D (.head _)).trans e,r⟩
 refine wpAny_bind (wpAny_standAt (wpAny_holding (wpAny_dictSet_pairs (knd:=intKind B.prog B.w) (k:=z) (by refine(?_:Value.isInt z (.int z t)=true);exact if_pos rfl) vy (λh' hd hs=>?_) (ae sizeLine_eq (zS hz rfl)))));refine bE (k₂.cT f₂ dO (yg.of (.head _) hs.extBut) (s₂.toks+1)) λk₃ f₃=>?_;have:=stored_length_le l z v;exact⟨aI,S₂,stored l z v,k₃,f₃,sb,⟨by exact To this hl hz hn,hd⟩,⟨hI,by exact Tp this⟩,dO⟩
theorem zbi{kx vx target iter ifs scope pos it acc aW}:(Code.compLoop (.DictComp kx vx [⟨target,iter,ifs,0⟩] scope pos) 0 it acc aW).quiet=true:=rfl
theorem zbj{kx vx target iter ifs scope pos}(T:List Addr)(D:Addr)(aW:Env){R:Result->Shared->Prop}{s:Shared}(h:codeAny (model B.prog B.w) A (.compLoop (.DictComp kx vx [⟨target,iter,ifs,0⟩] scope pos) 0 (.ref (T.headD 0)) (.ref D) aW) R s)(hp:∀{Q E:Value->Shared->Prop},Q (.ref (T.headD 0)) s->wpAny (model B.prog B.w) A (pyIter (.ref (T.headD 0))) Q E s):codeAny (model B.prog B.w) A (.compStart (.DictComp kx vx [⟨target,iter,ifs,0⟩] scope pos) 0 (.ref (T.headD 0)) (.ref D) aW) R s :=
 codeAny_compStart_dict h (hp h)
theorem Q2{kx vx target iter ifs scope pos}(T:List Addr)(D:Addr)(aW:Env){R:Fin->Shared->Prop}{RE:Value->Shared->Prop}{s:Shared}(h:wpAny (model B.prog B.w) A (Zu target iter ifs (.ref (T.headD 0)) (JN kx vx D aW) (.compLoop (.DictComp kx vx [⟨target,iter,ifs,0⟩] scope pos) 0 (.ref (T.headD 0)) (.ref D) aW) aW) R cf s):
  wpAny (model B.prog B.w) (A.under (.compLoop (.DictComp kx vx [⟨target,iter,ifs,0⟩] scope pos) 0 (.ref (T.headD 0)) (.ref D) aW)) ((model B.prog B.w).den (.compLoop (.DictComp kx vx [⟨target,iter,ifs,0⟩] scope pos) 0 (.ref (T.headD 0)) (.ref D) aW)) R RE s:=by
 refine(?_:wpAny _ A ((compTurn (.DictComp kx vx [⟨target,iter,ifs,0⟩] scope pos) 0 (.ref (T.headD 0)) (.ref D) aW).onRaise (λx=>do noteFrame x aW;theTreesLotGoes x)) _ _ s);refine wpAny_noted ?_;rw[Wn];exact wpAny_mono h (λZZ ZZ q=>q) λZZ ZZ e=>e.elim
theorem zcK(r:Rg){ι:Type}(src:ι->Src B){sc scope:Scope}{kx vx target iter:Expr}{pos my:Pos}{Bind:ι->Nat->Vs->St->Vs->St->Prop}(caps:Vs){use:Option (Value->Sem Unit)}{Q:Value->Shared->Prop}{X:Addr->Option Obj}{s:Shared}(Inv:ι->Nat->St->List (Int × Value)->Prop)(en:En env sc)(cx:yG scope sc=true)(cN:Je scope vs caps)(o:Ok B S X s)(f:zA own env vs S X s)(hh:A.handled=none)(hz:∀j,(src j).n<=1000000)(hi:gd B A own env vs S iter src (λj vs' S'=>vs'=vs/\Inv j 0 S' []))(hs:∀x,foldedSetIterable iter env x=pure x)(hd:∀j env2,En env2 (zZ scope sc)->gG B A false env2 target (src j) (Bind j))(need:∀j i S l,Inv j i S l->(src j).need S)(sub:∀j i S vs' S',Bind j i caps S vs' S'->caps.Sub vs')(step:∀j env2,En env2 (zZ scope sc)->∀i S l vs' S',i<(src j).n->Inv j i S l->Bind j i caps S vs' S'->
   W B A false env2 vs' S' (eval kx env2) (λy bf S₁=>∃z t,y = .int z t/\W B A false env2 bf S₁ (eval vx env2) (λv aD S₃=>vs'.Sub aD/\Inv j (i+1) S₃ (stored l z v))))(fin:∀j S l es D C s',Inv j (src j).n S l->DK (B:=B) (intKind B.prog B.w) es l->S.no D->D≠C->(∀h' t,Heap.SameBut C s'.heap h'->Ok B (S.put r D (.dict es)) X { s' with heap:=h',toks:=t }/\zA own env vs (S.put r D (.dict es)) X { s' with heap:=h',toks:=t })->zE [C] env (S.put r D (.dict es)) X->(∃m,s'.heap.Ns C m)->
   compPost (model B.prog B.w) A cf use Q (.ref D) C (.ok .next) s'): wpAny (model B.prog B.w) A (comprehension (.DictComp kx vx [⟨target,iter,[],0⟩] scope pos) scope env my newDict false (eval iter env) use) Q cf s:=by
 refine Xm r (zkn B) src (add:=λD aW=>JN kx vx D aW) (Bind:=Bind) (λj i S l=>Inv j i S l/\l.length<=i) (λl c=>∃es,c = .dict es/\DK (B:=B) (intKind B.prog B.w) es l) (λ⟨_,e⟩=>?_) rfl (λh=>?_) (λZZ ZZ ZZ=>zbi) Q2 zbj en cx cN o f hh ?_ hs hd (λj i S l h=>need j i S l h.1) sub ?_ ?_
 ·obtain⟨es',D',ob,e1,e2⟩:=qr e;exact⟨ob,_,e1,⟨es',rfl,D'⟩,e2⟩
 ·refine wpAny_newObj_type ?_ (Kt _);exact h
 ·intro X s o f;refine wpAny_mono (hi X s o f) (λv s₁ q=>wpAny_mono q (λiv s₂ q=>?_) λZZ ZZ e=>e) λZZ ZZ e=>e;refine xi q λj T vs' S' e1 o' f' st it e2 hI=>?_;exact⟨j,T,vs',S',e1,o',f',st,it,e2,hI,Kz 0⟩
 ·intro j env2 bq D i S l vs' S' aC hI bd;have' h:_:=step j env2 bq i S l vs' S' aC hI.1 bd;dsimp only[jA];refine z7 rfl ?_;intro X s o f sD hP;refine wpAny_mono (zah (n:=(src j).n) (Inv:=Inv j (i+1)) (vs':=vs') (K1 hI.2 aC) (hz j) h X s o f sD hP) (λZZ s' q=>?_) λZZ ZZ e=>e;refine yw q λaD S₃ l' a1 a2 a3 a4 a5 a6=>?_;exact⟨aD,S₃,l',a1,a2,a3,a4,⟨a5.1,Ks a5.2 (L9 hI.2)⟩,a6⟩
 ·intro j S l c D C s' hI hc hD lh hC ok st hn;refine zV hc λes bR D'=>?_;obtain rfl:=bR;exact fin j S l es D C s' hI.1 D' hD lh ok st hn
theorem wn(r:Rg){ι:Type}(src:ι->Src B){sc scope:Scope}{kx vx target iter:Expr}{pos py rE:Pos}{y:Str}{Bind:ι->Nat->Vs->St->Vs->St->Prop}(caps:Vs){Q:Flow->Vs->St->Prop}(Inv:ι->Nat->St->List (Int × Value)->Prop)(en:En env sc)(rF:(sc.names.lookup y == some .local&&py.line == pos.line && !(scope.names.any fun(n,k)=>n == y&&(k == .local||k == .cell)))=true)(cx:yG scope sc=true)(cN:Je scope vs caps)(hh:A.handled=none)(hz:∀j,(src j).n<=1000000)(hi:gd B A own env vs S iter src (λj vs' S'=>vs'=vs/\Inv j 0 S' []))(hd:∀j env2,En env2 (zZ scope sc)->gG B A false env2 target (src j) (Bind j))(need:∀j i S l,Inv j i S l->(src j).need S)(sub:∀j i S vs' S',Bind j i caps S vs' S'->caps.Sub vs')(step:∀j env2,En env2 (zZ scope sc)->∀i S l vs' S',i<(src j).n->Inv j i S l->Bind j i caps S vs' S'->
   W B A false env2 vs' S' (eval kx env2) (λy bf S₁=>∃z t,y = .int z t/\W B A false env2 bf S₁ (eval vx env2) (λv aD S₃=>vs'.Sub aD/\Inv j (i+1) S₃ (stored l z v))))(fin:∀j S l es D,Inv j (src j).n S l->DK (B:=B) (intKind B.prog B.w) es l->S.no D->Q .next (zi vs y (.ref D)) (S.put r D (.dict es)))(hs:∀x,foldedSetIterable iter env x=pure x:=by intro _;rfl): W B A own env vs S (exec (.Assign [.Name y py] (.DictComp kx vx [⟨target,iter,[],0⟩] scope pos) rE) env) Q:=λX s o f=>by
 have hl:sc.names.lookup y=some .local:=by
  simp only[Bool.and_eq_true,beq_iff_eq]at rF;exact rF.1.1
 refine ae (exec_Assign_Name_used _ _ _ _ ((Wy en).trans (ae rF rfl))) ?_;refine wpAny_bind (wpAny_standAt (wpAny_bind ?_));refine(?_:wpAny _ A (do let _ <-comprehension (.DictComp kx vx [⟨target,iter,[],0⟩] scope pos) scope env _ newDict false (eval iter env) (some (assign (.Name y py) env))) _ _ s);refine wpAny_bind (wpAny_mono (zcK (Q:=λZZ=>Pw B own env X (Q .next)) r src caps Inv en cx cN o f hh hz hi hs hd need sub step λj S l es D C s' hI hDK hD lh ok st hn =>
  Xb (Q:=Q .next) en (ae hl rfl) (.inr hl) ok st hn (fin j S l es D hI hDK hD)) (λZZ s' q=>wpAny_pure (wpAny_pure q)) λZZ ZZ e=>e)
end
end
section
set_option genSizeOf false
set_option genInjectivity false
section
variable {B:Bs} {A:Around} {own:Bool} {env:Env} {vs:Vs} {S:St}
theorem zlk(en:En env sc)(hk:sc.names.lookup x=some .free)(hc:env.cells.lookup x=some c)(hv:zo vs x=some v)(h:Q v vs S)(hd:(x == ("__debug__":Str))=false:=by decide)(hn:(x == ("__classdict__":Str))=false:=by decide):W B A own env vs S (eval (.Name x pos) env) Q:=λX s o f=>by
 refine wpAny_Name ?_ hd;refine zt (f.2 x c hc) λv₀ bI cg=>?_;obtain rfl:=cg v hv;exact wpAny_loadName_free en.fn ((en.kindOf x).trans hk) hc bI ⟨vs,S,o,f,h⟩ hn
theorem zcL(hf:S.k f=some (.is (kla_obj name qual params body scope [(x3,cc)] pm c' fe)))(hc:S.k c'=some (.is oc))(pT:oc.data = .fields ip)(lC:ip[1]? = some (.str qual t))(hfz:(cc,.ref mk)∈B.fz)(bN:zC (n+1) A)(dM:bindArgs (kla_fn name qual params body scope [(x3,cc)] pm (.ref c') fe) ⟨[v1,v2],[]⟩=pure [(x1,v1),(x2,v2)])(hk:scope.kind = .function)(hco:scope.isCoroutine=false)(BE:scope.isGenerator=false)(bI:∀x∈scope.names,x.2≠.cell)(lz:scope.names.lookup x1=some .local)(dQ:scope.names.lookup x2=some .local)(lG:scope.names.lookup x3=some .free)(bY:x2≠x1)(h:∀A' env,zC n A'->En env scope->env.cells=[(x3,cc)]->W B A' false env [(x1,v1),(x2,v2),(x3,.ref mk)] S (eval body env) (λv ZZ S'=>∃bg,bg.le S'/\Q v bg)):V B A S (call (.ref f) [v1,v2]) Q:=λX s o=>by
 refine qv (o.3 _ _ (St.az (r:=.k) hf)) λof e1 e2 ZZ=>?_;refine qv (o.3 _ _ (St.az (r:=.k) hc)) λIL e3 e4 ZZ=>?_;subst e2;subst e4;refine wpAny_call (kla_callFunE bN.lt e1 rfl hco BE rfl ⟨c',IL,ip,t,rfl,e3,pT,lC⟩ ?_);refine ae dM ?_;refine wpAny_pure (wpAny_newFunctionEnv bI (λx hx=>?_) (λh₁ iz pX=>⟨(B.nolimit.keeps o.keep).fresh _ pX,?_⟩) hk)
 ·rcases Kw.mp hx with rfl | hx
  ·exact lz
  ·exact ae (Kf.mp hx) dQ
 have' vA:∀b o,s.heap.get? b=some o->h₁.get? b=some o:=λb o e=>pX.extBut b o (K6 (La e)) (Ke _ e);refine(?_:codeAny _ _ (.expr body (envX qual scope s.heap.objs.size f (.ref c') [(x3,cc)])) _ _);have big:=o.above (Kz s.heap.objs.size);have o₁:Ok B S X { s with heap:=h₁,toks:=s.toks+[(x1,v1),(x2,v2)].length }:=o.grown vA _;refine zt (o.1.2 cc _ hfz) λMD b1 b2=>?_;have en:En (envX qual scope s.heap.objs.size f (.ref c') [(x3,cc)]) scope:=by
  refine⟨rfl,hk,rfl,rfl,λx hx=>absurd rfl (bI (x,.cell) (mem_of_lookup hx)),λx c hx e=>?_⟩;have hm:=mem_of_lookup hx;cases List.mem_singleton.mp hm;rw[lG]at e;injection e with zz1;injection zz1
 have' f₁:zA false (envX qual scope s.heap.objs.size f (.ref c') [(x3,cc)]) [(x1,v1),(x2,v2),(x3,.ref mk)] S X { s with heap:=h₁,toks:=s.toks+[(x1,v1),(x2,v2)].length }:=by
  refine⟨⟨_,iz,λx v hx hv=>?_⟩,λx c hx=>?_,big.2,big.1,λx c hx=>?_,(λe=>by injection e),(λe=>by injection e)⟩
  ·have dg:scope.names.lookup x=some .local:=hx;unfold zo at hv;rw[List.lookup_cons]at hv;refine(?_:[(x2,v2),(x1,v1)].lookup x=some v);refine ae Lc ?_;by_cases q1:x=x1
   ·subst q1;have' this:(x == x2)=false:=by simpa using λe=>bY e.symm
    refine ae this ?_;refine ae Lc ?_;simpa using hv
   ·have n1:(x == x1)=false:=by simpa using q1
    rw[n1]at hv;dsimp only at hv;rw[List.lookup_cons]at hv;by_cases q2:x=x2
    ·subst q2;simpa using hv
    ·have n2:(x == x2)=false:=by simpa using q2
     rw[n2]at hv;dsimp only at hv;rw[List.lookup_cons]at hv;by_cases q3:x=x3
     ·subst q3;rw[lG]at dg;injection dg with zz1;injection zz1
     ·have n3:(x == x3)=false:=by simpa using q3
      rw[n3]at hv;injection hv
  ·have hm:=mem_of_lookup hx;cases List.mem_singleton.mp hm;refine⟨some (.ref mk),⟨MD,o₁.2 _ _ b1,b2⟩,λv hv=>?_⟩;have' n1:(x3 == x1)=false:=by
    rw[beq_eq_false_iff_ne];intro e;rw[e,lz]at lG;injection lG with zz1;injection zz1
   have' n2:(x3 == x2)=false:=by
    rw[beq_eq_false_iff_ne];intro e;rw[e,dQ]at lG;injection lG with zz1;injection zz1
   unfold zo at hv;rw[List.lookup_cons,n1]at hv;dsimp only at hv;rw[List.lookup_cons,n2]at hv;dsimp only at hv;rw[List.lookup_cons]at hv;simpa using hv
  ·cases List.mem_singleton.mp hx;refine ae (if_neg (by decide)) ?_;exact⟨MD,b1⟩
 refine kla_codeExpr (wpAny_mono (h _ _ (bN.deeper _) en rfl X _ o₁ f₁) (λv s' q=>?_) λZZ ZZ e=>e.elim);obtain⟨vs',S',o',f',bg,l,q⟩:=q;exact⟨bg,o'.weaken l,q⟩
end
end
section
set_option genSizeOf false
set_option genInjectivity false
variable {B:Bs} {A:Around} {S:St}
noncomputable def gn(k:Mp)(v:Value)(l:List Int):Prop:=(v = .none/\l=[])\/∃a us,v = .ref a/\k a=some (.tup us)/\IntsAre us l
theorem gn.mono(h:gn k v l)(le:k.le k'):gn k' v l:=by
 rcases h with h | ⟨a,us,h1,h2,h3⟩
 ·exact .inl h
 ·exact .inr ⟨a,us,h1,le _ _ h2,h3⟩
theorem ME(en:En env sc)(hk:ym (sc.names.lookup x)=true)(hv:zo vs x=some v)(h:gn S.k v l)(hz:l.length<=1000)(hq:∀a k' us,S.k.le k'->k' a=some (.tup us)->IntsAre us l->Q (.ref a) vs (S.to .k k'))(hd:(x == ("__debug__":Str))=false:=by decide):W B A own env vs S (eval (.BoolOp .Or [.Name x p1,.Tuple [] n p2] p3) env) Q:=by
 refine WB (Zq en hk hv ?_ hd);have emp:l=[]->W B A own env vs S (eval (.BoolOp .Or [.Tuple [] n p2] p3) env) Q:=λe=>by
  subst e;refine IZ (zN (Q9 (ze (Kt _) λa k' le oZ ZZ=>hq a k' [] le oZ .nil)))
 rcases h with ⟨rfl,e⟩ | ⟨a,us,rfl,h1,h2⟩
 ·refine ao (Qj ?_);refine jf rfl ?_;exact emp e
 ·have hl:=h2.length;refine ao (XK (gk h1) (z9 hl hz rfl) ?_);cases us with
  | nil =>
   obtain rfl:l=[]:=by cases l with | nil=>rfl | cons _ _=>injection hl
   refine jf rfl ?_;exact emp rfl
  | cons u us =>
   refine z7 rfl ?_;exact hq a S.k _ (Mp.le_refl _) h1 h2
theorem xu{l1 l2 U:List Int}(R:zC 1 A)(h1:gn S.k v1 l1)(h2:gn S.k v2 l2)(MF:∀x∈l1,x∈U)(cI:∀x∈l2,x∈U)(hz:U.length<=15)(z1:l1.length<=1000)(z2:l2.length<=1000)(h:∀a k' us l,S.k.le k'->k' a=some (.tup us)->IntsAre us l->l.Pairwise (· < ·)->(∀x,x∈l↔x∈l1\/x∈l2)->Q (.ref a) (S.to .k k')):V B A S (call (.ref 491) [v1,v2]) Q:=by
 refine zL (f:=491) (binds:=[("one",v1),("other",v2)]) (n:=0) (by delta Bs.K;k_is) (by kernel_rfl) R rfl (by rfl) (by kernel_rfl) ?_;intro A' env R' en;dsimp only at en;w_fin;o_unpack xp;o_unpack y8;o_unpack Xl;refine ME en rfl rfl h1 z1 λa1 k1 tQ aU e1 i1=>?_;o_reads;refine ME en rfl rfl (h2.mono aU) z2 λa2 k2 tO bt e2 i2=>?_;dsimp only[St.put,St.to,St.get]at bt |-;have' l1':_:=i1.length;have' l2':_:=i2.length;refine ao (y9 (bt _ _ e1) e2 (z9 l1' z1 rfl) (z9 l2' z2 rfl) λa3 k3 aV e3=>?_);dsimp only[St.put,St.to,St.get]at aV e3 |-;w_fin;refine ao (wd (r:=.k) (U:=U) R'.3 (gk e3) (.inr rfl) (IntsAre.append i1 i2) (λz hz=>(Ko.mp hz).elim (MF z) (cI z)) hz λa4 es t bC I hm=>?_);have' vB:k3 a4=none:=bC .k;o_reads;have' aG:k3.le (upd k3 a4 (.set es t)):=Mp.av vB;have' h4:_:=za k3 a4 (.set es t);generalize upd k3 a4 (.set es t)=k4 at aG h4 |-;have bT:es.length<=15:=by
  rw[<-zP];have' this:_:=jb (U:=U) I.3 λz hz=>(Ko.mp ((hm z).mp hz)).elim (MF z) (cI z);exact bX this hz
 w_fin;refine ao (yj (r:=.k) R'.3 (gk h4) I.2 I.1 (zS bT rfl) λa5 out bJ rV hI hp hs=>?_);have' mX:k4 a5=none:=rV .k;o_reads;have' aP:k4.le (upd k4 a5 (.list out)):=Mp.av mX;have' h5:_:=za k4 a5 (.list out);generalize upd k4 a5 (.list out)=k5 at aP h5 |-;have' lo:_:=hI.length;have' lp:_:=hp.length_eq;rw[zP]at lp;w_fin;refine ao (yh (r:=.k) (gk h5) (JV lo lp bT rfl) λa6 dV=>?_);have' cE:k5 a6=none:=dV .k;w_means;refine⟨_,St.le_refl _,h a6 _ out bJ (Mp.le_trans aU (Mp.le_trans bt (Mp.le_trans aV (Mp.le_trans aG (Mp.le_trans aP (Mp.av cE)))))) (za _ _ _) hI (Xo hp I.3 hs) λx=>?_⟩;rw[hp.mem_iff,hm,List.mem_append]
theorem sk(x:Str)(t:Tok):(strKind p w).is x (.str x t)=true:=by
 refine(?_:Value.isStrOf x (.str x t)=true);exact if_pos rfl
noncomputable def yL(B:Bs)(k:Mp)(es:List DictEntry)(kvs:List (Str × Value))(tb:Str->List Int):Prop:=A3
 (DK (B:=B) (strKind B.prog B.w) es kvs)
 (kvs.length<=5)
 (∀x,xt x->(valueAt kvs x=none/\tb x=[])\/∃a us,valueAt kvs x=some (.ref a)/\k a=some (.tup us)/\IntsAre us (tb x))
theorem yL.mono(h:yL B k es kvs tb)(le:k.le k'):yL B k' es kvs tb :=
 ⟨h.1,h.2,λx hx=>by
  rcases h.3 x hx with h | ⟨a,us,h1,h2,h3⟩
  ·exact .inl h
  ·exact .inr ⟨a,us,h1,le _ _ h2,h3⟩⟩
theorem xv{l U:List Int}(h:l.Pairwise (· < ·))(hU:∀z∈l,z∈U):l.length<=U.length:=jb (h.imp λh=>by exact Im h) hU
theorem zbk{mk va:Addr}{es:List DictEntry}{kvs:List (Str × Value)}{tb:Str->List Int}{x:Str}{t:Tok}{ws:List Value}{ls:List (List Int)}{U:List Int}(R:zC 2 A)(hm:S.m mk=some (.dict es))(T:yL B S.k es kvs tb)(hx:xt x)(hv:S.k va=some (.list ws))(pg:ws.length=ls.length)(eX:∀(i:Nat) v,ws[i]? = some v->gn S.k v (ls.getD i []))(hU:∀z∈tb x,z∈U)(cI:∀l∈ls,∀z∈l,z∈U)(hz:U.length<=15)(z1:(tb x).length<=1000)(z2:∀l∈ls,l.length<=1000)(z3:ls.length<=1000)(h:∀a k' us l,S.k.le k'->k' a=some (.tup us)->IntsAre us l->l.length<=1000->(∀z,z∈l↔z∈tb x\/∃m∈ls,z∈m)->Q (.ref a) (S.to .k k')):V B A S (call (.ref 498) [.ref mk,.str x t,.ref va]) Q:=by
 refine zL (f:=498) (binds:=[("table",.ref mk),("op",.str x t),("values",.ref va)]) (n:=1) (by delta Bs.K;k_is) (by kernel_rfl) R rfl (by rfl) (by kernel_rfl) ?_;intro A' env R' en;dsimp only at en;w_fin;o_unpack Z6;refine zN ?_;w_fin;refine ze (Kt _) λc0 k0 bU fU ZZ=>?_;o_reads;w_fin;refine ao (ZV (k:=x) (kZ hm) T.1 (sk _ _) ?_);obtain⟨a,us,e1,e2,e3⟩:∃a us,(valueAt kvs x).getD (.ref c0) = .ref a/\k0 a=some (.tup us)/\IntsAre us (tb x):=by
  rcases T.3 x hx with ⟨q1,q2⟩ | ⟨a,us,q1,q2,q3⟩
  ·exact ae q1 (ae q2 ⟨c0,[],rfl,fU,.nil⟩)
  ·exact ae q1 ⟨a,us,rfl,bU _ _ q2,q3⟩
 refine ae e1 ?_;w_fin
 let Inv1:(Unit)->Nat->Vs->St->Prop:=λj i vs' S'=>E4 λk' a us l=>A7 (S'=⟨k',S.b,S.u,S.l,S.h,S.v,S.p,S.m⟩) (S.k.le k') (k' a=some (.tup us)) (IntsAre us l) (l.length<=1000) (∀z,z∈l↔z∈tb x\/∃m∈ls.take i,z∈m) (∃w,vs'=([("table",.ref mk),("op",.str x t),("values",.ref va),("found",.ref a)]:Vs)++w/\(w=[]\/∃v,w=[(("value":Str),v)]))
 refine qi (λj:Unit=>(zf B va ws).src) Inv1 R'.3 (zY (λj:Unit=>zf B va ws) ?_) (λj=>zr _ en (by rfl) (.inl rfl)) ?_ ?_ ?_
 ·w_fin;exact⟨(),rfl,gk (bU _ _ hv),k0,a,us,tb x,rfl,bU,e2,e3,z1,by simp,[],rfl,.inl rfl⟩
 ·rintro j i vs' S' ⟨k',a,us,l,rfl,le,_⟩;exact gk (le _ _ hv)
 ·rintro j i vs' S' cW bg aQ ⟨k',a,us,l,rfl,le,f1,f2,f3,f4,w,rfl,hw⟩ bZ;refine zJ bZ λbo v fY bG=>?_;obtain rfl:=bo;obtain rfl:=bG;have' ew:zi (([("table",.ref mk),("op",.str x t),("values",.ref va),("found",.ref a)]:Vs)++w) "value" v=([("table",.ref mk),("op",.str x t),("values",.ref va),("found",.ref a),("value",v)]:Vs):=by
   rcases hw with rfl | ⟨v,rfl⟩ <;> rfl
  refine ae ew ?_;have aC:i<ls.length:=by have' this:i<ws.length:=aQ;exact jx this pg
  have' hV:_:=(eX i v fY).mono le;have em:ls.getD i []=ls[i]:=by refine ae Kh ?_;refine ae (Ka aC) ?_;rfl
  have ck:ls.getD i []∈ls:=ae em (Ky aC);w_fin;o_unpack wU;refine ao (xu (U:=U) R' (.inr ⟨a,us,rfl,f1,f2⟩) hV (λz q=>?_) (cI _ ck) hz f3 (z2 _ ck) λa2 k2 tO l2 bt g1 g2 g3 g4=>?_)
  ·rcases(f4 z).mp q with q | ⟨m,q1,q2⟩
   ·exact hU z q
   ·exact cI m (Mz q1) z q2
  dsimp only[St.put,St.to,St.get]at bt |-;w_fin;have kM:∀z,z∈l2↔z∈tb x\/∃m∈ls.take (i+1),z∈m:=λz=>by
   rewrite [g4,f4];refine ae Lu ?_;refine ae (Ka aC) ?_;refine aR em ?_;simp only[Option.toList_some,List.mem_append,List.mem_singleton];constructor
   ·rintro((q | ⟨m,q1,q2⟩) | q)
    ·exact .inl q
    ·exact .inr ⟨m,.inl q1,q2⟩
    ·exact .inr ⟨_,.inr rfl,q⟩
   ·rintro(q | ⟨m,q1 | rfl,q2⟩)
    ·exact .inl (.inl q)
    ·exact .inl (.inr ⟨m,q1,q2⟩)
    ·exact .inr q2
  refine⟨k2,a2,tO,l2,rfl,Mp.le_trans le bt,g1,g2,?_,kM,[(("value":Str),v)],rfl,.inr ⟨_,rfl⟩⟩;have' this:_:=xv (U:=U) g3 λz q=>by
   rcases(kM z).mp q with q | ⟨m,q1,q2⟩
   ·exact hU z q
   ·exact cI m (Mz q1) z q2
  exact xL this hz rfl
 ·rintro j vs' S' ⟨k',a,us,l,rfl,le,f1,f2,f3,f4,w,rfl,hw⟩;have' e9:ls.take (zf B va ws).src.n=ls:=by
   have' this:(zf B va ws).src.n=ls.length:=pg;exact ae this (ae Mc rfl)
  rw[e9]at f4;w_means;refine jT (vs':=[("table",.ref mk),("op",.str x t),("values",.ref va),("found",.ref a)]) (λy v h=>?_) ?_
  ·rcases hw with rfl | ⟨v,rfl⟩
   ·exact h
   ·exact Vs.Sub.set (x:="value") (v:=v) rfl y _ h
  w_fin;exact⟨_,St.le_refl _,h a k' us l le f1 f2 f3 f4⟩
end
section
set_option genSizeOf false
set_option genInjectivity false
variable {B:Bs} {A:Around} {S:St}
noncomputable def z5(k:Mp)(n:Nat)(kvs:List (Int × Value))(val:Nat->Option (List Int)):Prop:=And
 (∀c:Nat,(val c=none/\valueAt kvs (c:Int)=none)\/∃l a us,val c=some l/\valueAt kvs (c:Int)=some (.ref a)/\k a=some (.tup us)/\IntsAre us l/\l.Pairwise (· < ·))
 (∀z∈kvs.map (·.1),∃c:Nat,c<n/\z=(c:Int))
theorem z5.mono(h:z5 k n kvs val)(le:k.le k'):z5 k' n kvs val :=
 ⟨λc=>(h.1 c).imp id λzp=>by refine jy zp λl a us h1 h2 h3 h4=>?_;exact⟨l,a,us,h1,h2,le _ _ h3,h4⟩,h.2⟩
theorem z5.more(h:z5 k n kvs val)(hm:n<=m):z5 k m kvs val :=
 ⟨h.1,λz hz=>by refine zt (h.2 z hz) λc h1 h2=>?_;exact⟨c,by exact Hy h1 hm,h2⟩⟩
theorem z5.nil(k:Mp)(n:Nat):z5 k n [] λZZ=>none:=⟨λc=>.inl ⟨rfl,rfl⟩,λz hz=>(nomatch hz)⟩
theorem z5.len(h:z5 k n kvs val)(hn:(kvs.map (·.1)).Nodup):kvs.length<=n:=by
 have' this:_:=jb (U:=(List.range n).map Int.ofNat) hn λz hz=>by
  refine zV (h.2 z hz) λc h1 bR=>?_;obtain rfl:=bR;exact Kr.mpr ⟨c,K8.mpr h1,rfl⟩
 simpa using this
theorem z5.val{n:Nat}{kvs:List (Int × Value)}{val:Nat->Option (List Int)}(h:z5 k n kvs val)(c:Nat):gn k ((valueAt kvs (c:Int)).getD .none) ((val c).getD []):=by
 rcases h.1 c with ⟨h1,h2⟩ | ⟨l,a,us,h1,h2,h3,h4,_⟩
 ·exact ae h1 (ae h2 (.inl ⟨rfl,rfl⟩))
 ·exact ae h1 (ae h2 (.inr ⟨a,us,rfl,h3,h4⟩))
theorem z5.set{k:Mp}{n:Nat}{kvs:List (Int × Value)}{val:Nat->Option (List Int)}(h:z5 k n kvs val){c:Nat}(hc:c<n){a:Addr}{us:List Value}{l:List Int}(h1:k a=some (.tup us))(h2:IntsAre us l)(h3:l.Pairwise (· < ·)):
  z5 k n (PySem.stored kvs (c:Int) (.ref a)) (qa val c (some l)):=by
 refine⟨λd=>?_,λz hz=>?_⟩
 ·rw[jd];by_cases e:d=c
  ·subst e;refine ae (if_pos rfl) ?_;rw[zz];exact .inr ⟨l,a,us,rfl,rfl,h1,h2,h3⟩
  ·exact ae (if_neg (XC e)) (ae (ju _ _ e) (h.1 d))
 ·unfold PySem.stored at hz;split at hz
  ·rw[List.map_map]at hz;refine zV (Kr.mp hz) λkv vC bo=>?_;obtain rfl:=bo;refine h.2 _ (Kr.mpr ⟨kv,vC,?_⟩);refine(?_:kv.1=(if kv.1=(c:Int) then(kv.1,Value.ref a) else kv).1);split <;> rfl
  ·rw[List.map_append]at hz;rcases Ko.mp hz with hz | hz
   ·exact h.2 z hz
   ·exact⟨c,hc,by simpa using hz⟩
theorem z5.mem{n:Nat}{kvs:List (Int × Value)}{val:Nat->Option (List Int)}(h:z5 k n kvs val)(c:Nat):(c:Int)∈kvs.map (·.1)↔val c≠none:=by
 have' e:(valueAt kvs (c:Int)).isSome=true↔(c:Int)∈kvs.map (·.1):=by
  refine ae Option.isSome_map ?_;rw[List.find?_isSome];simp[List.mem_map]
 rw[<-e];rcases h.1 c with ⟨h1,h2⟩ | ⟨l,a,us,h1,h2,_⟩
 ·refine ae h1 ?_;refine ae h2 ?_;decide
 ·refine ae h1 ?_;refine ae h2 ?_;simp
/-! pS D6 -/
structure KL where
 kp:Addr
 kd:Addr
 an:Addr
 ad:Addr
 td:Addr
 lam:Addr
 mt:Addr
noncomputable def KR(B:Bs)(K:KL)(h:Addr)(k p:Mp)(n:Nat)(val:Nat->Option (List Int)):Prop:=A4
 (k K.kp=some (.is (zd 109 K.kd)))
 (E4 λvd t es kvs=>A4 (p K.kd=some (.attrs [("heap",.ref h),("analysis",.ref K.an),("values",.ref vd),("told",.ref K.td),("backs",.int 0 t)])) (p vd=some (.dict es)) (DK (B:=B) (intKind B.prog B.w) es kvs) (z5 k n kvs val))
 (k K.an=some (.is (zd 45 K.ad)))
 (p K.ad=some (.attrs [("of_node",.ref K.lam),("joined",.ref 491)]))
theorem KR.mono{K:KL}{h:Addr}{n:Nat}{val:Nat->Option (List Int)}(R:KR B K h k p n val)(le:k.le k'):KR B K h k' p n val :=
 ⟨le _ _ R.1,(by obtain⟨vd,t,es,kvs,h1,h2,h3,h4⟩:=R.2;exact⟨vd,t,es,kvs,h1,h2,h3,h4.mono le⟩),le _ _ R.3,R.4⟩
theorem KR.more{K:KL}{h:Addr}{n m:Nat}{val:Nat->Option (List Int)}(R:KR B K h k p n val)(hm:n<=m):KR B K h k p m val :=
 ⟨R.1,(by obtain⟨vd,t,es,kvs,h1,h2,h3,h4⟩:=R.2;exact⟨vd,t,es,kvs,h1,h2,h3,h4.more hm⟩),R.3,R.4⟩
variable {L:HL} {nds:List Nd} {ps:List (Nat × Nat)} {par:List Nat} {aj:List (List Nat)} {kn:List (Nd × Nat)} {us:Nat->List Nat} {wt:List Nat} {ne:Nat} {K:KL} {n:Nat} {val:Nat->Option (List Int)}
theorem xw(R:zC 1 A)(U:HR B L S.k S.b S.u S.l S.h S.v nds par aj kn us wt ne)(VK:KR B K L.h S.k S.p n val)(h:Q .none S):V B A S (call (.ref 70) [.ref K.kp]) Q:=by
 refine zL (f:=70) (binds:=[("self",.ref K.kp)]) (n:=0) (by delta Bs.K;k_is) (by kernel_rfl) R rfl (by rfl) (by kernel_rfl) ?_;intro A' env R' en;dsimp only at en;refine aB U.4 λta u2=>?_;have' u1:_:=U.3;obtain⟨vd,t,es,kvs,v2,v3,v4,v5⟩:=VK.2;have v1:=VK.1;w_fin;o_unpack YL;o_unpack jC;o_unpack w6;refine ao (xc ?_);refine zc ?_;have' c:((0:Int) != 0)=false:=by decide
 refine jf c ?_;w_fin;exact⟨S,St.le_refl _,h⟩
theorem zbl(R:zC 3 A)(U:HR B L S.k S.b S.u S.l S.h S.v nds par aj kn us wt ne)(I:UI par aj)(VK:KR B K L.h S.k S.p n val)(hi:i<par.length)(h:∀v,((val (root par i)=none/\v = .none)\/∃l a us,val (root par i)=some l/\v = .ref a/\S.k a=some (.tup us)/\IntsAre us l)->Q v S):V B A S (call (.ref 77) [.ref K.kp,.int i ti]) Q:=by
 refine zL (f:=77) (binds:=[("self",.ref K.kp),("c",.int i ti)]) (n:=2) (by delta Bs.K;k_is) (by kernel_rfl) R rfl (by rfl) (by kernel_rfl) ?_;intro A' env R' en;dsimp only at en;refine aB U.4 λta u2=>?_;have' u1:_:=U.3;obtain⟨vd,t,es,kvs,v2,v3,v4,v5⟩:=VK.2;have v1:=VK.1;w_fin;o_unpack yU;refine ao (xw (R'.less (by decide)) U VK ?_);w_fin;o_unpack je;o_unpack Z6;o_unpack jC;o_unpack jD;refine ao (jO R' U I hi λt1=>?_);w_fin;refine ao (yz (k:=((root par i:Nat):Int)) (by w_left) v4 (ik _ _) ?_);w_means;refine⟨S,St.le_refl _,h _ ?_⟩;rcases v5.1 (root par i) with ⟨q1,q2⟩ | ⟨l,a,us,q1,q2,q3,q4,_⟩
 ·exact ae q2 (.inl ⟨q1,rfl⟩)
 ·exact ae q2 (.inr ⟨l,a,us,q1,rfl,q3,q4⟩)
theorem Gv(R:zC 3 A)(U:HR B L S.k S.b S.u S.l S.h S.v nds par aj kn us wt ne)(I:UI par aj)(VK:KR B K L.h S.k S.p n val)(h:∀c k',S.k.le k'->k' c=some (.list [])->Q (.ref c) (S.to .k k')):V B A S (call (.ref 99) [.ref K.kp]) Q:=by
 refine zL (f:=99) (binds:=[("self",.ref K.kp)]) (n:=2) (by delta Bs.K;k_is) (by kernel_rfl) R rfl (by rfl) (by kernel_rfl) ?_;intro A' env R' en;dsimp only at en;refine aB U.4 λta u2=>?_;have' u1:_:=U.3;obtain⟨vd,t,es,kvs,v2,v3,v4,v5⟩:=VK.2;have v1:=VK.1;have' small:_:=I.2;w_fin;o_unpack yU;refine ao (xw (R'.less (by decide)) U VK ?_);w_fin;have cz:(zK par).length<=12:=by
  have' this:_:=Mh (λj=>par.getD j 0 == j) (List.range par.length);rw[List.length_range]at this;refine(?_:(List.filter _ _).length<=12);exact bX this small
 let Inv1:(Addr × { r:List Value // r.length<=1000000 })->Nat->St->List Value->Prop:=λj i' S' l=>∃k4,A5 (S'=⟨k4,S.b,S.u,S.l,S.h,S.v,S.p,S.m⟩) (S.k.le k4) (k4 j.1=some (.list j.2.1)) (IntsAre j.2.1 ((zK par).map Int.ofNat)) (l=[])
 refine zG .k (λj:Addr × { r:List Value // r.length<=1000000 }=>(zf B j.1 j.2.1).src) [("self",.ref K.kp)]
  Inv1 en (by kernel_rfl) ⟨by decide,rfl,trivial⟩ R'.3 (λj=>j.2.2) (zY (λj:Addr × { r:List Value // r.length<=1000000 }=>zf B j.1 j.2.1) ?_) (λj env2 bq=>zr _ bq (by rfl) (.inr (by rfl))) ?_ ?_ ?_ ?_
 ·w_fin;o_unpack jC;o_unpack gc;refine ao (gX R' U I λc k' out le hk hI=>?_);have lr:=hI.length;rw[List.length_map]at lr;exact⟨(c,⟨out,by exact z9 lr cz rfl⟩),rfl,gk hk,rfl,k',rfl,le,hk,hI,rfl⟩
 ·rintro j i' S' l ⟨k4,rfl,aG,bz,_⟩;exact gk bz
 ·intro j i' S' vs' bg iC;refine zJ iC λcA v ZZ cj=>?_;obtain rfl:=cA;obtain rfl:=cj;exact Vs.Sub.set rfl
 ·rintro j env2 bq i' S' l vs' bg aQ ⟨k4,rfl,aG,bz,hr,rfl⟩ eV;refine zJ eV λdy v hv iI=>?_;obtain rfl:=dy;obtain rfl:=iI;have' lr:_:=hr.length;rw[List.length_map]at lr;have' aA:i'<(zK par).length:=by have' this:i'<j.2.1.length:=aQ;exact jx this lr
  refine aB (jk hr aA) λt6 iM=>?_;have' ev:v = .int ((zK par).getD i' 0:Nat) t6:=Option.some.inj (hv.symm.trans iM);subst ev;have' w1:_:=aG _ _ v1;dsimp only[jA,zi];w_fin;o_unpack je;o_unpack Z6;refine ao (yz (k:=(((zK par).getD i' 0:Nat):Int)) (by w_left) v4 (ik _ _) ?_);have' hu:A'.units<cLine:=R'.u;rcases v5.1 ((zK par).getD i' 0) with ⟨q1,q2⟩ | ⟨l,a,us,q1,q2,q3,q4,_⟩
  ·refine ae q2 ?_;w_fin;refine ao (Qv ?_);refine zc ?_;refine jf rfl ?_;exact⟨Vs.Sub.refl _,k4,rfl,aG,bz,hr,rfl⟩
  ·refine ae q2 ?_;w_fin;refine ao (XZ hu (gk (aG _ _ q3)) ?_);refine zc ?_;refine jf rfl ?_;exact⟨Vs.Sub.refl _,k4,rfl,aG,bz,hr,rfl⟩
 ·rintro j S' l D ⟨k4,rfl,aG,bz,hr,rfl⟩ aH;have' bC:k4 D=none:=aH .k;w_means;exact⟨_,St.le_refl _,h D _ (Mp.le_trans aG (Mp.av bC)) (za _ _ _)⟩
end
section
set_option genSizeOf false
set_option genInjectivity false
variable {B:Bs} {A:Around} {S:St}
variable {L:HL} {nds:List Nd} {ps:List (Nat × Nat)} {par:List Nat} {aj:List (List Nat)} {kn:List (Nd × Nat)} {us:Nat->List Nat} {wt:List Nat} {ne:Nat} {K:KL} {n:Nat} {val:Nat->Option (List Int)}
theorem Y8(hx:S.has an (.is (zd 45 d)))(hd:S.has d (.attrs kvs))(hv:zo kvs "joined"=some v)(h:Q (v,[]) S)(hh:handedIn v=true:=by rfl):V B A S (getMethod (.ref an) "joined" pl) Q :=
 xE (yY _) (xU _) (xW _) (xX _) hx hd hv h hh
theorem zai(hx:S.has an (.is (zd 45 d)))(hd:S.has d (.attrs kvs))(hv:zo kvs "of_node"=some v)(h:Q (v,[]) S)(hh:handedIn v=true:=by rfl):V B A S (getMethod (.ref an) "of_node" pl) Q :=
 xE (yY _) (xH _) (xJ _) (xK _) hx hd hv h hh
theorem Ze{U:List Int}(h:z5 k n kvs val)(hU:∀c x,x∈(val c).getD []->x∈U)(hz:U.length<=15)(c:Nat):((val c).getD []).length<=15:=by
 rcases h.1 c with ⟨h1,_⟩ | ⟨l,a,us,h1,_,_,_,h5⟩
 ·exact ae h1 (Kt _)
 ·have' this:_:=hU c;rw[h1]at this |-;have' this:_:=xv h5 this;refine(?_:l.length<=15);exact bX this hz
theorem zbm{U:List Int}(R:zC 3 A)(UR:HR B L S.k S.b S.u S.l S.h S.v nds par aj kn us wt ne)(I:UI par aj)(VK:KR B K L.h S.k S.p par.length val)(hU:∀c x,x∈(val c).getD []->x∈U)(hz:U.length<=15)(h:∀k' p' bD,S.k.le k'->KR B K L.h k' p' par.length bD->(∀r x,x∈(bD r).getD []↔∃c,root par c=r/\x∈(val c).getD [])->(∀r,bD r≠none->r<par.length/\par.getD r 0=r)->Q .none ⟨k',S.b,S.u,S.l,S.h,S.v,p',S.m⟩):V B A S (call (.ref 84) [.ref K.kp]) Q:=by
 refine zL (f:=84) (binds:=[("self",.ref K.kp)]) (n:=2) (by delta Bs.K;k_is) (by kernel_rfl) R rfl (by rfl) (by kernel_rfl) ?_;intro A' env R' en;dsimp only at en;refine aB UR.4 λta u2=>?_;have' u1:_:=UR.3;obtain⟨vd,t,es,kvs,v2,v3,v4,v5⟩:=VK.2;have v1:=VK.1;have v6:=VK.3;have v7:=VK.4;have small:=I.2;have kz:=v5.len v4.2.2;w_fin;o_unpack yU;refine ao (xw (R'.less (by decide)) UR VK ?_);w_fin;refine yD (r:=.p) λfa rW=>?_;have rX:S.p fa=none:=rW .p;o_reads;have n1:K.kd≠fa:=zD v2 rX;have n2:vd≠fa:=zD v3 rX;have n3:K.ad≠fa:=zD v7 rX;have p1:=(zb S.p (.dict []) n1).trans v2;have p2:=(zb S.p (.dict []) n2).trans v3;have' p3:_:=(zb S.p (.dict []) n3).trans v7;have' p4:_:=za S.p fa (.dict []);generalize upd S.p fa (.dict [])=p0 at p1 p2 p3 p4 |-;clear v2 v3 v7;w_fin
 let Inv1:(Addr × { r:List Value // r.length<=1000000 })->Nat->Vs->St->Prop:=λj i vs' S'=>∃ms:List Nat,A4 (IntsAre j.2.1 (ms.map Int.ofNat)) (∀c,c∈ms↔val c≠none) (∀c∈ms,c<par.length) (E5 λk3 pp tR kP fZ=>VI (S'=⟨k3,S.b,S.u,S.l,S.h,S.v,pp,S.m⟩) (S.k.le k3) (k3 j.1=some (.list j.2.1)) (pp K.kd=some (.attrs [("heap",.ref L.h),("analysis",.ref K.an),("values",.ref vd),("told",.ref K.td),("backs",.int 0 t)])) (pp vd=some (.dict es)) (pp K.ad=some (.attrs [("of_node",.ref K.lam),("joined",.ref 491)])) (pp fa=some (.dict tR)) (DK (B:=B) (intKind B.prog B.w) tR kP) (z5 k3 par.length kP fZ) (∀r x,x∈(fZ r).getD []↔∃c∈ms.take i,root par c=r/\x∈(val c).getD []) (∀r,fZ r≠none->r<par.length/\par.getD r 0=r) (Vs.Sub [("self",.ref K.kp),("found",.ref fa)] vs'))
 refine qi (λj:Addr × { r:List Value // r.length<=1000000 }=>(zf B j.1 j.2.1).src) Inv1 R'.3 (zY (λj:Addr × { r:List Value // r.length<=1000000 }=>zf B j.1 j.2.1) ?_) (λj=>zr _ en (by rfl) (.inl rfl)) ?_ ?_ ?_
 ·w_fin;o_unpack y8;o_unpack je;refine ao (Qn (r:=.k) R'.3 (by w_left) v4 (xL kz small rfl) λc out bJ aH hI hp hs=>?_);have' dB:S.k c=none:=aH .k;have rR:∀z∈bJ,0<=z:=λz hz=>by
   refine zV (v5.2 z (hp.mem_iff.mp hz)) λx ZZ bR=>?_;obtain rfl:=bR;exact Mo _
  obtain⟨ms,rfl⟩:=Gs rR;have lo:=hI.length;have lp:=hp.length_eq;rw[List.length_map]at lo lp;rw[List.length_map]at lp;have ck:∀c,c∈ms↔val c≠none:=λc=>by rw[<-xg,hp.mem_iff,v5.mem]
  refine⟨(c,⟨out,by exact Tq lo lp kz small rfl⟩),rfl,gk (za _ _ _),ms,hI,ck,λc hc=>?_,_,p0,[],[],λZZ=>none,rfl,Mp.av dB,za _ _ _,p1,p2,p3,p4,DK.nil _,z5.nil _ _,by simp,by simp,Vs.Sub.refl _⟩;refine zt (v5.2 c ((v5.mem c).mpr ((ck c).mp hc))) λd hd e=>?_;exact Tr e hd
 ·rintro j i vs' S' ⟨ms,_,_,_,k3,pp,tR,kP,fZ,rfl,aV,dA,_⟩;exact gk dA
 ·rintro j i vs' S' cW bg aQ ⟨ms,iQ,ck,aC,k3,pp,tR,kP,fZ,rfl,aV,dA,q1,q2,q3,q4,D3,V3,h3,rY,bV⟩ rA;refine zJ rA λbG v hv cA=>?_;obtain rfl:=bG;obtain rfl:=cA;have' mS:_:=iQ.length;rw[List.length_map]at mS;have aA:i<ms.length:=by have' this:i<j.2.1.length:=aQ;exact jx this mS
  refine aB (jk iQ aA) λt8 oj=>?_;have' ev:v = .int (ms.getD i 0:Nat) t8:=Option.some.inj (hv.symm.trans oj);subst ev;have e9:ms.getD i 0=ms[i]:=by refine ae Kh ?_;refine ae (Ka aA) ?_;rfl
  have D7:ms.getD i 0∈ms:=ae e9 (Ky aA);generalize ky:ms.getD i 0=c at D7 e9 |-;have eD:=aC c D7;have kQ:root par c<par.length:=by have' this:_:=jL I.3 c;exact Ts this eD ky
  refine jT (vs':=[("self",.ref K.kp),("found",.ref fa),("c",.int (c:Nat) t8)]) (λy u hy=>?_) ?_
  ·rw[zw];by_cases e:y="c"
   ·subst e;refine ae (if_pos rfl) ?_;exact hy
   ·refine ae (if_neg e) ?_;refine bV y u ?_;have' e2:zo [(("self":Str),Value.ref K.kp),("found",.ref fa),("c",.int (c:Nat) t8)] y=zo (zi [("self",.ref K.kp),("found",.ref fa)] "c" (.int (c:Nat) t8)) y:=rfl;rw[e2,zw,if_neg e]at hy;exact hy
  have' w1:_:=aV _ _ u1;have w2:=aV _ _ v1;have' w3:_:=aV _ _ v6;w_fin;o_unpack jC;o_unpack jD;refine ao (jO R' (UR.mono aV) I eD λt9=>?_);w_fin;refine jK ?_;w_fin;o_unpack yK;refine ao (Y8 (by w_left) (by w_left) (by rfl) ?_);refine yE (wV _) ?_;w_fin;o_unpack Z6;refine ao (yz (k:=((root par c:Nat):Int)) (by w_left) D3 (ik _ _) ?_);have g1:=V3.val (root par c);have MG:∀r x,x∈(fZ r).getD []->x∈U:=λr x hx=>by
   refine qv ((h3 r x).mp hx) λd ZZ ZZ h4=>?_;exact hU d x h4
  have z3:=Ze V3 MG hz (root par c);have' z4:_:=Ze v5 hU hz c;w_fin;o_unpack je;obtain⟨lc,ac,uc,c1,c2,c3,c4,c5⟩:∃l a us,val c=some l/\valueAt kvs (c:Int)=some (.ref a)/\S.k a=some (.tup us)/\IntsAre us l/\l.Pairwise (· < ·):=by
   rcases v5.1 c with ⟨h4,_⟩ | h4
   ·exact absurd h4 ((ck c).mp D7)
   ·exact h4
  refine ao (jG (k:=((c:Nat):Int)) (by w_left) v4 (ik _ _) c2 ?_);w_fin;have' MH:_:=hU c;rw[c1]at MH z4;refine ao (xu (U:=U) (R'.less (by decide)) g1 (.inr ⟨ac,uc,rfl,aV _ _ c3,c4⟩) (MG _) MH hz (zS z3 rfl) (by have' this:lc.length<=15:=z4;exact zS this rfl) λa9 k9 nM l9 cL f1 f2 f3 f4=>?_);dsimp only[St.put,St.to,St.get]at cL |-;w_fin;have' kz3:_:=V3.len D3.2.2;refine ao (yP (r:=.p) (k:=((root par c:Nat):Int)) q4 D3 (ik _ _) (xL kz3 small rfl) λes4 D4=>?_);o_reads;w_fin;refine⟨ms,iQ,ck,aC,k9,_,es4,_,_,rfl,Mp.le_trans aV cL,cL _ _ dA,(zb _ _ n1).trans q1,(zb _ _ n2).trans q2,(zb _ _ n3).trans q3,za _ _ _,D4,(V3.mono cL).set kQ f1 f2 f3,λr x=>?_,λr hr=>?_,?_⟩
  ·have et:ms.take (i+1)=ms.take i++[c]:=by refine ae Lu ?_;refine ae (Ka aA) ?_;refine ae e9 ?_;rfl
   refine ae et ?_;have split:(∃d∈ms.take i++[c],root par d=r/\x∈(val d).getD [])↔(∃d∈ms.take i,root par d=r/\x∈(val d).getD [])\/(root par c=r/\x∈lc):=by
    simp only[List.mem_append,List.mem_singleton];constructor
    ·intro rB;refine qv rB λd D8 d2 d3=>?_;rcases D8 with d1 | rfl
     ·exact .inl ⟨d,d1,d2,d3⟩
     ·rw[c1]at d3;exact .inr ⟨d2,d3⟩
    ·rintro(⟨d,d1,d2,d3⟩ | ⟨d2,d3⟩)
     ·exact⟨d,.inl d1,d2,d3⟩
     ·exact⟨c,.inr rfl,d2,ae c1 d3⟩
   rw[split];by_cases e:r=root par c
   ·subst e;rw[zz];refine(?_:x∈l9↔_);rw[f4,h3];simp
   ·refine ae (ju _ _ e) ?_;rw[h3];constructor
    ·exact .inl
    ·rintro(h | ⟨h,_⟩)
     ·exact h
     ·exact absurd h.symm e
  ·by_cases e:r=root par c
   ·subst e;exact⟨kQ,zq I.3 c⟩
   ·rw[ju _ _ e]at hr;exact rY r hr
  ·intro y u hy;have' e1:_:=(Vs.Sub.set (vs:=[("self",.ref K.kp),("found",.ref fa)]) (x:="c") (v:=.int (c:Nat) t8) rfl) y u hy;exact(Vs.Sub.set (vs:=[("self",.ref K.kp),("found",.ref fa),("c",.int (c:Nat) t8)]) (x:="kept") (v:=.int (root par c:Nat) t9) rfl) y u e1
 ·rintro j vs' S' ⟨ms,iQ,ck,aC,k3,pp,tR,kP,fZ,rfl,aV,dA,q1,q2,q3,q4,D3,V3,h3,rY,bV⟩;have' mS:_:=iQ.length;rw[List.length_map]at mS;have' vr:ms.take (zf B j.1 j.2.1).src.n=ms:=by
   have' this:(zf B j.1 j.2.1).src.n=ms.length:=mS;exact ae this (ae Mc rfl)
  rw[vr]at h3;w_means;refine jT bV ?_;have w2:=aV _ _ v1;have' w3:_:=aV _ _ v6;w_fin;refine zj ?_;w_fin;refine ao (xG (r:=.p) (by w_left) q1 ?_ (Kq _ _));dsimp only[St.put,St.to,St.get,zi];w_fin;refine⟨_,St.le_refl _,h k3 _ fZ aV ⟨w2,⟨fa,t,tR,kP,za _ _ _,(zb _ _ (Ne.symm n1)).trans q4,D3,V3⟩,w3,?_⟩ (λr x=>?_) rY⟩
  ·exact(zb _ _ (zU q3 q1 (by intro e;cases e))).trans q3
  ·rw[h3];constructor
   ·intro og;refine qv og λc ZZ h4 h5=>?_;exact⟨c,h4,h5⟩
   ·intro ml;refine zV ml λc h4 h5=>?_;exact⟨c,(ck c).mpr (λe=>by rw[e]at h5;cases h5),h4,h5⟩
end
section
set_option genSizeOf false
set_option genInjectivity false
variable {B:Bs} {A:Around} {S:St}
variable {L:HL} {nds:List Nd} {ps:List (Nat × Nat)} {par:List Nat} {aj:List (List Nat)} {kn:List (Nd × Nat)} {us:Nat->List Nat} {wt:List Nat} {ne:Nat} {K:KL} {n:Nat} {val:Nat->Option (List Int)}
noncomputable def zlO(params:Arguments)(body:Expr)(scope:Scope):Prop:=pO
 (E5 λp1 p2 p3 p4 p5=>body = .Call (.Name "_law_of" p1) [.Name "marks" p2,.Name "op" p3,.Name "values" p4] [] p5)
 (scope.kind = .function)
 (scope.isCoroutine=false)
 (scope.isGenerator=false)
 (∀x∈scope.names,x.2≠.cell)
 (scope.names.lookup ("op":Str)=some .local)
 (scope.names.lookup ("values":Str)=some .local)
 (scope.names.lookup ("marks":Str)=some .free)
 (scope.names.lookup ("_law_of":Str)=some .globalImplicit)
 (∀name qual cl pm cd fe v1 v2,bindArgs (kla_fn name qual params body scope cl pm cd fe) ⟨[v1,v2],[]⟩=pure [(("op":Str),v1),(("values":Str),v2)])
structure Zf (B:Bs) (K:KL) (k:Mp):Prop where
 ex:CW λc' cc oc ip t pm fe name qual params body scope=>A6 (zlO params body scope) (k K.lam=some (.is (kla_obj name qual params body scope [("marks",cc)] pm c' fe))) (k c'=some (.is oc)) (oc.data = .fields ip) (ip[1]? = some (.str qual t)) ((cc,.ref K.mt)∈B.fz)
theorem Zf.mono(h:Zf B K k)(le:k.le k'):Zf B K k' :=
 by obtain⟨c',cc,oc,ip,t,pm,fe,name,qual,params,body,scope,h0,h1,h2,h3,h4,h5⟩:=h.ex;exact⟨c',cc,oc,ip,t,pm,fe,name,qual,params,body,scope,h0,le _ _ h1,le _ _ h2,h3,h4,h5⟩
theorem zew{va:Addr}{es:List DictEntry}{kvs:List (Str × Value)}{tb:Str->List Int}{x:Str}{t:Tok}{ws:List Value}{ls:List (List Int)}{U:List Int}(R:zC 3 A)(hl:Zf B K S.k)(hm:S.m K.mt=some (.dict es))(T:yL B S.k es kvs tb)(hx:xt x)(hv:S.k va=some (.list ws))(pg:ws.length=ls.length)(eX:∀(i:Nat) v,ws[i]? = some v->gn S.k v (ls.getD i []))(hU:∀z∈tb x,z∈U)(cI:∀l∈ls,∀z∈l,z∈U)(hz:U.length<=15)(z1:(tb x).length<=1000)(z2:∀l∈ls,l.length<=1000)(z3:ls.length<=1000)(h:∀a k' us l,S.k.le k'->k' a=some (.tup us)->IntsAre us l->l.length<=1000->(∀z,z∈l↔z∈tb x\/∃m∈ls,z∈m)->Q (.ref a) (S.to .k k')):V B A S (call (.ref K.lam) ([]++[.str x t,.ref va])) Q:=by
 obtain⟨c',cc,oc,ip,tq,pm,fe,name,qual,params,body,scope,LI,h1,h2,h3,h4,h5⟩:=hl.ex;refine zcL (n:=2) (x1:="op") (x2:="values") (x3:="marks") h1 h2 h3 h4 h5 R (LI.10 _ _ _ _ _ _ _ _) LI.2 LI.3 LI.4 LI.5 LI.6 LI.7 LI.8 (by decide) ?_;intro A' env R' en hc;obtain⟨p1,p2,p3,p4,p5,e⟩:=LI.1;subst e;refine IM ?_;refine wq en LI.9 (zaW _) ?_;refine yE (zaX _) ?_;refine qz ?_;refine zlk (c:=cc) en LI.8 (ae hc rfl) (by rfl) ?_;refine qz ?_;refine Zq en (ae LI.6 rfl) (by rfl) ?_;refine qz ?_;refine Zq en (ae LI.7 rfl) (by rfl) ?_;refine Q9 ?_;refine ao (zbk (U:=U) R' hm T hx hv pg eX hU cI hz z1 z2 z3 λa k' us l q1 q2 q3 q4 q5=>?_);exact⟨_,St.le_refl _,h a k' us l q1 q2 q3 q4 q5⟩
theorem zaj{α β:Type}{P:α->β->Prop}:∀{out:List α},(∀v∈out,∃z,P v z)->∃nl:List β,nl.length=out.length/\∀(q:Nat) v z,out[q]? = some v->nl[q]? = some z->P v z:=by
 intro zl;induction zl with
 | nil =>
  intro _;exact⟨[],rfl,λq v z h=>by injection h⟩
 | cons a r ih =>
  intro h;refine zt (ih λv hv=>h v (.tail _ hv)) λnl h1 h2=>?_;refine aB (h a (.head _)) λz hz=>?_;refine⟨z::nl,by simp[h1],λq v z' h3 h4=>?_⟩;cases q with
  | zero =>
   rw[List.getElem?_cons_zero]at h3 h4;obtain rfl:=Option.some.inj h3;obtain rfl:=Option.some.inj h4;exact hz
  | succ q =>
   rw[List.getElem?_cons_succ]at h3 h4;exact h2 q v z' h3 h4
theorem zex(h:IntsAre vs ns)(h':IntsAre vs ms):ns=ms:=by
 induction ns generalizing vs ms with
 | nil =>
  obtain rfl:=h.nil_inv;cases ms with
  | nil=>rfl
  | cons m ms=>refine j8 h'.cons_inv λt vs' e ZZ=>?_;injection e
 | cons a ns ih =>
  refine j8 h.cons_inv λt vs' bR h1=>?_;obtain rfl:=bR;cases ms with
  | nil=>have:=h'.nil_inv;injection this
  | cons m ms =>
   refine Bg h'.cons_inv λt' cW e h2=>?_;injection e with zz1 zz2;injection zz1 with zz3 zz4;obtain rfl:=zz3;obtain rfl:=zz4;obtain rfl:=zz2;exact ae (ih h1 h2) rfl
theorem jH.inj(h:jH k b x ns)(h':jH k b y ms):x=y/\ns=ms:=by
 refine gs h λvs e t r bo hr=>?_;obtain rfl:=bo;refine gs h' λvs' e' t' r' bG uV=>?_;obtain rfl:=bG;rw[e]at e';injection e' with zz1;injection zz1 with zz2;injection zz2 with zz3 zz4;injection zz3 with zz5 zz6;obtain rfl:=zz5;obtain rfl:=zz6;obtain rfl:=zz4;exact⟨rfl,zex hr uV⟩
noncomputable def Gw(nds:List Nd)(par:List Nat)(tb:Str->List Int)(val:Nat->Option (List Int))(c:Nat)(x:Int):Prop :=
 ∃(m:Nat) (nd:Nd),m∈jh par c/\nds[m]? = some nd/\(x∈tb nd.1\/∃k∈nd.2,x∈(val (root par k)).getD [])
theorem Q3{i:Nat}{ti:Tok}{es:List DictEntry}{kvs:List (Str × Value)}{tb:Str->List Int}{U:List Int}(R:zC 5 A)(UR:HR B L S.k S.b S.u S.l S.h S.v nds par aj kn us wt ne)(H:HI nds ps par aj kn us wt)(VK:KR B K L.h S.k S.p par.length val)(hl:Zf B K S.k)(hm:S.m K.mt=some (.dict es))(T:yL B S.k es kvs tb)(hi:i<nds.length)(hU:∀c x,x∈(val c).getD []->x∈U)(cI:∀x,∀z∈tb x,z∈U)(hz:U.length<=15)(z1:∀x,(tb x).length<=1000)(h:∀a k' us l,S.k.le k'->k' a=some (.tup us)->IntsAre us l->l.Pairwise (· < ·)->(∀x,x∈l↔x∈(val i).getD []\/Gw nds par tb val i x)->Q (.ref a) (S.to .k k')):V B A S (call (.ref 89) [.ref K.kp,.int i ti]) Q:=by
 refine zL (f:=89) (binds:=[("self",.ref K.kp),("c",.int i ti)]) (n:=4) (by delta Bs.K;k_is) (by kernel_rfl) R rfl (by rfl) (by kernel_rfl) ?_;intro A' env R' en;dsimp only at en;refine aB UR.4 λta u2=>?_;have u1:=UR.3;obtain⟨vd,t,eQ,eE,v2,v3,v4,v5⟩:=VK.2;have v1:=VK.1;have' v6:_:=VK.3;have v7:=VK.4;have hlen:=H.3;have' small:_:=H.1.1;w_fin;o_unpack je;o_unpack Z6;refine ao (yz (k:=((i:Nat):Int)) (by w_left) v4 (ik _ _) ?_);have' f0:_:=v5.val i;generalize (valueAt eE ((i:Nat):Int)).getD .none=fv0 at f0 |-;have' f0z:_:=Ze v5 hU hz i;w_fin
 let Inv1:(Addr × { r:List Value // r.length<=1000000 })->Nat->Vs->St->Prop:=λj q vs' S'=>∃k3,A4 (S'=⟨k3,S.b,S.u,S.l,S.h,S.v,S.p,S.m⟩) (S.k.le k3) (k3 j.1=some (.list j.2.1)) (∃nl:List Nd,A5 (nl.length=j.2.1.length) (0<nl.length) (∀(q:Nat) v z,j.2.1[q]? = some v->nl[q]? = some z->∃b,v = .ref b/\xt z.1/\z.2.length<=2/\(∀k∈z.2,k<par.length)/\jH k3 b z.1 (z.2.map Int.ofNat)) (∀x,Gw nds par tb val i x↔∃z∈nl,x∈tb z.1\/∃k∈z.2,x∈(val k).getD []) (E2 λfv fl=>A5 (gn k3 fv fl) (fl.length<=15) (∀x,x∈fl↔x∈(val i).getD []\/∃z∈nl.take q,x∈tb z.1\/∃k∈z.2,x∈(val k).getD []) (0<q->(∃a us,fv = .ref a/\k3 a=some (.tup us)/\IntsAre us fl)/\fl.Pairwise (· < ·)) (Vs.Sub [("self",.ref K.kp),("c",.int i ti),("found",fv)] vs')))
 refine qi (λj:Addr × { r:List Value // r.length<=1000000 }=>(zf B j.1 j.2.1).src) Inv1 R'.3 (zY (λj:Addr × { r:List Value // r.length<=1000000 }=>zf B j.1 j.2.1) ?_) (λj=>zr _ en (by rfl) (.inl rfl)) ?_ ?_ ?_
 ·w_fin;o_unpack jC;o_unpack JK;refine ao (Y4 R' UR H hi λc k1 out aU kI ho vD bS=>?_);o_reads;obtain⟨nl,n1,n2⟩:=zaj (P:=fun(v:Value) (z:Nd)=>∃b m nd,v = .ref b/\m∈jh par i/\nds[m]? = some nd/\z=zF (root par) nd/\jH k1 b z.1 (z.2.map Int.ofNat)) (out:=out) λv hv=>by
   refine jy (vD v hv) λb m nd e1 e2 e3 e4=>?_;exact⟨zF (root par) nd,b,m,nd,e1,e2,e3,rfl,e4⟩
  have kM:∀m∈jh par i,∀nd,nds[m]? = some nd->zF (root par) nd∈nl:=λm dx nd bB=>by
   refine zt (bS m dx nd bB) λb fQ rq=>?_;refine aB (K9.mp fQ) λq hq=>?_;have fW:q<nl.length:=ae n1 ((Kb.mp hq).1);refine q8 (n2 q _ _ hq (Ka fW)) λb' m' bK e1 e2 e3 e4 e5=>?_;injection e1 with zz1;obtain rfl:=zz1;refine bE (e5.inj rq) λh1 h2=>?_;have' this:nl[q]=zF (root par) nd:=by
    have' eA:_:=(Va (λa b e=>Int.ofNat.inj e)).mp h2;exact Prod.ext h1 eA
   exact aR this (Ky fW)
  have' vE:i∈jh par i:=L6.mpr ⟨K8.mpr (aM hi hlen),(if_pos rfl)⟩;refine⟨(c,⟨out,by exact zS ho rfl⟩),rfl,gk kI,k1,rfl,aU,kI,nl,n1,?_,?_,?_,fv0,(val i).getD [],f0.mono aU,f0z,by simp,λq=>absurd q (L0 _),Vs.Sub.refl _⟩
  ·exact Vc (kM i vE _ (Ka hi))
  ·intro q v z hq aS;refine q8 (n2 q v z hq aS) λb m nd e1 e2 e3 e4 e5=>?_;subst e4;refine⟨b,e1,H.1.2 nd (Kx e3),?_,?_,e5⟩
   ·refine(?_:(nd.2.map (root par)).length<=2);rw[List.length_map];exact H.1.4 nd (Kx e3)
   ·intro k hk;refine zV (Kr.mp hk) λk0 D9 cA=>?_;obtain rfl:=cA;have' this:_:=H.bj (H.cD e3 D9);exact aM this hlen
  ·intro x;constructor
   ·intro rB;refine g8 rB λm nd h1 h2 h3=>?_;refine⟨_,kM m h1 nd h2,?_⟩;rcases h3 with h3 | ⟨k,h4,h5⟩
    ·exact .inl h3
    ·exact .inr ⟨root par k,Kr.mpr ⟨k,h4,rfl⟩,h5⟩
   ·intro eV;refine zV eV λz aS h3=>?_;refine aB (K9.mp aS) λq hq=>?_;have fW:q<out.length:=aR n1 ((Kb.mp hq).1);refine q8 (n2 q _ _ (Ka fW) hq) λb m nd e1 e2 e3 e4 e5=>?_;subst e4;refine⟨m,nd,e2,e3,?_⟩;rcases h3 with h3 | ⟨k,h4,h5⟩
    ·exact .inl h3
    ·refine zV (Kr.mp h4) λk0 D9 dy=>?_;obtain rfl:=dy;exact .inr ⟨k0,D9,h5⟩
 ·intro j q vs' S' ml;refine q7 ml λk3 eC aV dA ZZ=>?_;obtain rfl:=eC;exact gk dA
 ·rintro j q vs' S' cW bg aQ ⟨k3,rfl,aV,dA,nl,n1,rZ,n2,n3,fv,fl,g1,g2,g3,g4,bV⟩ mY;refine zJ mY λfc v hv mQ=>?_;obtain rfl:=fc;obtain rfl:=mQ;have fW:q<nl.length:=by have' this:q<j.2.1.length:=aQ;exact aM this n1
  obtain⟨b,rfl,MI,z2,zk,vz,lj,tz,rz,rfl,Ea⟩:=n2 q v _ hv (Ka fW);generalize hzz:nl[q]=z at MI z2 zk lj Ea;refine jT (vs':=[("self",.ref K.kp),("c",.int i ti),("found",fv),("node",.ref b)]) (λy u hy=>?_) ?_
  ·rw[zw];by_cases e:y="node"
   ·subst e;refine ae (if_pos rfl) ?_;exact hy
   ·refine ae (if_neg e) ?_;refine bV y u ?_;have' e2:zo [(("self":Str),Value.ref K.kp),("c",.int i ti),("found",fv),("node",.ref b)] y=zo (zi [("self",.ref K.kp),("c",.int i ti),("found",fv)] "node" (.ref b)) y:=rfl;rw[e2,zw,if_neg e]at hy;exact hy
  have' w1:_:=aV _ _ u1;have w2:=aV _ _ v1;have' w3:_:=aV _ _ v6;have vF:=Ea.length;rw[List.length_map]at vF;w_fin
  let Inv2:(Addr)->Nat->St->List Value->Prop:=λjj p S' l=>∃k4,A5 (S'=⟨k4,S.b,S.u,S.l,S.h,S.v,S.p,S.m⟩) (k3.le k4) (k4 jj=some (.tup rz)) (l.length=p) (∀(q:Nat) v,l[q]? = some v->gn k4 v ((val (z.2.getD q 0)).getD []))
  refine qG .k (λjj:Addr=>(jp B jj rz).src) [("self",.ref K.kp)]
   Inv2 en (by kernel_rfl) (by kernel_rfl) ⟨by decide,rfl,trivial⟩ R'.3 (λZZ=>by refine(?_:rz.length<=_);exact z9 vF z2 rfl) (zY (λjj:Addr=>jp B jj rz) ?_) (λjj env2 bq=>zr _ bq (by rfl) (.inr (by rfl))) ?_ ?_ ?_ ?_
  ·refine yl (by decide) ?_;w_fin;refine⟨b,_,rfl,gk lj,(Kv _),by simp;exact z9 vF z2 rfl,λc4 k4 aG bz aH=>?_⟩;exact⟨c4,rfl,gk bz,rfl,k4,rfl,aG,bz,rfl,λq v h=>by injection h⟩
  ·rintro jj p S' l ⟨k4,rfl,aG,bz,nY⟩;exact gk bz
  ·intro jj p S' vs' bg r4;refine zJ r4 λiP v ZZ mB=>?_;obtain rfl:=iP;obtain rfl:=mB;exact Vs.Sub.set rfl
  ·rintro jj env2 bq p S' l vs' bg Eb ⟨k4,rfl,aG,bz,lD,tS⟩ r5;refine zJ r5 λmR v fY iL=>?_;obtain rfl:=mR;obtain rfl:=iL;have' aA:p<z.2.length:=by have' this:p<rz.length:=Eb;exact jx this vF
   refine aB (jk Ea aA) λt6 iM=>?_;have' ev:v = .int (z.2.getD p 0:Nat) t6:=Option.some.inj (fY.symm.trans iM);subst ev;have' x1:_:=aG _ _ w2;dsimp only[jA,zi];refine z7 rfl ?_;w_fin;o_unpack je;o_unpack Z6;refine ao (yz (k:=((z.2.getD p 0:Nat):Int)) (by w_left) v4 (ik _ _) ?_);refine⟨Vs.Sub.refl _,k4,rfl,aG,bz,ae Ki (ae Kj (ae lD rfl)),λq' v' dr=>?_⟩;by_cases e:q'<l.length
   ·rw[List.getElem?_append_left e]at dr;exact tS q' v' dr
   ·have h4:=(Kb.mp dr).1;rw[List.length_append,List.length_singleton]at h4;have' this:q'=l.length:=Zk h4 lD e;subst this;rw[List.getElem?_append_right (Nat.le_refl _),Nat.sub_self]at dr;obtain rfl:=Option.some.inj dr;refine ae lD ?_;exact(v5.val _).mono (Mp.le_trans aV aG)
  ·rintro jj S' l D ⟨k4,rfl,aG,bz,lD,tS⟩ aH;have vG:l.length=z.2.length:=lD.trans (show rz.length=_ from vF);have' bC:k4 D=none:=aH .k;o_reads;refine ae (show zi ([("self",.ref K.kp),("c",.int i ti),("found",fv),("node",.ref b)]:Vs) "kids" (.ref D)=([("self",.ref K.kp),("c",.int i ti),("found",fv),("node",.ref b),("kids",.ref D)]:Vs) from(rfl:_=([("self",.ref K.kp),("c",.int i ti),("found",fv),("node",.ref b),("kids",.ref D)]:Vs))) ?_;have aP:k4.le (upd k4 D (.list l)):=Mp.av bC;have' hD:_:=za k4 D (.list l);generalize upd k4 D (.list l)=k5 at aP hD |-;have kR:=Mp.le_trans aG aP;have fg:=Mp.le_trans aV kR;have x1:=kR _ _ w2;have x2:=kR _ _ w3;have x3:=hl.mono fg;obtain⟨c',cc,oc,ip,tq,pm,fe,name,qual,params,body,scope,y0,y1,y2,y3,y4,y5⟩:=x3.ex;w_fin;o_unpack yK;refine ao (Y8 (by w_left) (by w_left) (by rfl) ?_);refine yE (wV _) ?_;w_fin;o_unpack yK;refine ao (zai (by w_left) (by w_left) (by rfl) ?_);refine Qf (ob:=kla_obj name qual params body scope [("marks",cc)] pm c' fe) rfl ?_;w_fin;have' hz5:_:=kR _ _ lj;refine ao (qq (k:=0) (v:=.str z.1 tz) (by w_left) rfl ?_ (by decide));w_fin;refine⟨gk y1,?_⟩;refine ao (zew (U:=U) (ls:=z.2.map λk=>(val k).getD []) (R'.less (jZ rfl)) x3 hm (T.mono fg) MI hD (by rw[List.length_map];exact vG) (λq' v' dr=>?_) (cI _) ?_ hz (z1 _) ?_ (by rw[List.length_map];exact zS z2 rfl) λa6 k6 vH l6 aZ s1 s2 s3 s4=>?_)
   ·have hq2:q'<z.2.length:=by refine aR vG ?_;exact(Kb.mp dr).1
    have' e5:(z.2.map λk=>(val k).getD []).getD q' []=(val (z.2.getD q' 0)).getD []:=by
     refine ae Kh ?_;refine ae Lf ?_;refine ae Kh ?_;refine ae (Ka hq2) ?_;rfl
    refine ae e5 ?_;exact(tS q' v' dr).mono aP
   ·intro l' nY x hx;refine zV (Kr.mp nY) λk ZZ r6=>?_;obtain rfl:=r6;exact hU k x hx
   ·intro l' nY;refine zV (Kr.mp nY) λk ZZ mE=>?_;obtain rfl:=mE;have' this:_:=Ze v5 hU hz k;exact zS this rfl
   dsimp only[St.put,St.to,St.get]at aZ |-;w_fin;have vI:∀x∈fl,x∈U:=λx hx=>by
    rcases(g3 x).mp hx with h1 | ⟨z',_,h1 | ⟨k,_,h1⟩⟩
    ·exact hU _ x h1
    ·exact cI _ x h1
    ·exact hU _ x h1
   have vJ:∀x∈l6,x∈U:=λx hx=>by
    rcases(s4 x).mp hx with h1 | ⟨m',dx,h1⟩
    ·exact cI _ x h1
    ·refine zV (Kr.mp dx) λk ZZ mF=>?_;obtain rfl:=mF;exact hU _ x h1
   refine ao (xu (U:=U) (R'.less (by decide)) (g1.mono (Mp.le_trans kR aZ)) (.inr ⟨a6,vH,rfl,s1,s2⟩) vI vJ hz (zS g2 rfl) s3 λa7 k7 MJ l7 bO o1 o2 o3 o4=>?_);dsimp only[St.put,St.to,St.get]at bO |-;w_fin;have r7:=Mp.le_trans kR (Mp.le_trans aZ bO);have' et:nl.take (q+1)=nl.take q++[z]:=by refine ae Lu ?_;refine ae (Ka fW) ?_;refine ae hzz ?_;rfl
   have' Ec:∀x,x∈l7↔x∈(val i).getD []\/∃z'∈nl.take (q+1),x∈tb z'.1\/∃k∈z'.2,x∈(val k).getD []:=λx=>by
    rewrite [o4,g3,s4];refine ae et ?_;constructor
    ·rintro((h1 | ⟨z',h1,h2⟩) | (h1 | ⟨m',dx,h1⟩))
     ·exact .inl h1
     ·exact .inr ⟨z',Ko.mpr (.inl h1),h2⟩
     ·exact .inr ⟨z,Ko.mpr (.inr (.head _)),.inl h1⟩
     ·refine zV (Kr.mp dx) λk hk r9=>?_;obtain rfl:=r9;exact .inr ⟨z,Ko.mpr (.inr (.head _)),.inr ⟨k,hk,h1⟩⟩
    ·rintro(h1 | ⟨z',h1,h2⟩)
     ·exact .inl (.inl h1)
     ·rcases Ko.mp h1 with h1 | h1
      ·exact .inl (.inr ⟨z',h1,h2⟩)
      ·cases List.mem_singleton.mp h1;rcases h2 with h2 | ⟨k,h2,h3⟩
       ·exact .inr (.inl h2)
       ·exact .inr (.inr ⟨_,Kr.mpr ⟨k,h2,rfl⟩,h3⟩)
   refine⟨k7,rfl,Mp.le_trans aV r7,r7 _ _ dA,nl,n1,rZ,λq' v' z' dr aS=>?_,n3,.ref a7,l7,.inr ⟨a7,MJ,rfl,o1,o2⟩,?_,Ec,λZZ=>⟨⟨a7,MJ,rfl,o1,o2⟩,o3⟩,?_⟩
   ·obtain⟨b',e1,e2,e3,e4,e5⟩:=n2 q' v' z' dr aS;exact⟨b',e1,e2,e3,e4,jH.mono e5 r7⟩
   ·have' this:_:=xv (U:=U) o3 λx hx=>((o4 x).mp hx).elim (vI x) (vJ x);exact bX this hz
   ·intro y u hy;have' e1:_:=(Vs.Sub.set (vs:=[("self",.ref K.kp),("c",.int i ti),("found",.ref a7)]) (x:="node") (v:=.ref b) rfl) y u hy;exact(Vs.Sub.set (vs:=[("self",.ref K.kp),("c",.int i ti),("found",.ref a7),("node",.ref b)]) (x:="kids") (v:=.ref D) rfl) y u e1
 ·rintro j vs' S' ⟨k3,rfl,aV,dA,nl,n1,rZ,n2,n3,fv,fl,g1,g2,g3,g4,bV⟩;have vr:(zf B j.1 j.2.1).src.n=nl.length:=n1.symm;rw[vr]at g3 g4;rw[List.take_length]at g3;obtain⟨⟨a,cw,rfl,a1,a2⟩,a3⟩:=g4 rZ;w_means;refine jT bV ?_;w_fin;exact⟨_,St.le_refl _,h a k3 cw fl aV a1 a2 a3 λx=>by rw[g3,n3]⟩
end
section
noncomputable def tT(o:Option (List Int)):Nat:=match o with | none=>0 | some l=>l.length+1
noncomputable def Y9(n:Nat)(val:Nat->Option (List Int)):Nat:=((List.range n).map λc=>16 - tT (val c)).sum
theorem Xq{l:List Nat}{f g:Nat->Nat}(h:∀c∈l,f c<=g c):(l.map f).sum<=(l.map g).sum:=by
 induction l with
 | nil=>exact Kz _
 | cons a r ih =>
  refine ae M7 ?_;refine ae List.sum_cons ?_;have h1:=h a (.head _);have h2:=ih λc hc=>h c (.tail _ hc);exact S0 h1 h2
theorem Xr{l:List Nat}{f g:Nat->Nat}(h:∀c∈l,f c<=g c){c:Nat}(hc:c∈l)(aC:f c<g c):(l.map f).sum<(l.map g).sum:=by
 induction l with
 | nil=>cases hc
 | cons a r ih =>
  refine ae M7 ?_;refine ae List.sum_cons ?_;have h1:=h a (.head _);have h2:=Xq λc hc=>h c (.tail _ hc);rcases Kw.mp hc with rfl | hc
  ·exact S6 aC h1 h2
  ·have h3:=ih (λc hc=>h c (.tail _ hc)) hc;exact S9 h1 h3
theorem zey(n:Nat)(val:Nat->Option (List Int)):Y9 n val<=16*n:=by
 have:((List.range n).map λc=>16 - tT (val c)).sum<=((List.range n).map λZZ=>16).sum:=Xq λc ZZ=>Nat.sub_le _ _;have h2:((List.range n).map λZZ=>16).sum=16*n:=by
  refine ae List.map_const' ?_;refine ae List.sum_replicate_nat ?_;refine ae Mv ?_;rw[Nat.mul_comm]
 exact Ta this h2
theorem zcM{n:Nat}{c:Nat}{l:List Int}(hc:c<n)(h1:tT (val c)<l.length+1)(h2:l.length<=15):Y9 n (qa val c (some l))+1<=Y9 n val:=by
 refine Xr (λd ZZ=>?_) (K8.mpr hc) ?_
 ·by_cases e:d=c
  ·subst e;rw[zz];have:tT (some l)=l.length+1:=rfl;exact Tc this h1 h2
  ·exact ae (ju _ _ e) (Kz _)
 ·rw[zz];have:tT (some l)=l.length+1:=rfl;exact Td this h1 h2 rfl
noncomputable def KI(nds:List Nd)(par:List Nat)(tb:Str->List Int)(fm:Nat->List Int)(cF:Nat->Option (List Int))(U:List Int)(W:List Nat)(val:Nat->Option (List Int)):Prop:=A5
 (∀c,c<nds.length->par.getD c 0=c->c∉W->val c≠none/\∀x,Gw nds par tb val c x->x∈(val c).getD [])
 (∀c x,x∈(val c).getD []->qp nds (root par) tb fm c x)
 (∀c x,x∈(cF c).getD []->x∈(val c).getD [])
 (∀c x,x∈(val c).getD []->x∈U)
 (∀c,val c≠none->c<nds.length/\par.getD c 0=c)
variable {nds:List Nd} {ps:List (Nat × Nat)} {par:List Nat} {aj:List (List Nat)} {kn:List (Nd × Nat)} {us:Nat->List Nat} {wt:List Nat}
variable {tb:Str->List Int} {fm:Nat->List Int} {cF val:Nat->Option (List Int)} {U:List Int} {W:List Nat}
theorem Gw.told(I:UI par aj){c:Nat}{x:Int}(hc:par.getD c 0=c)(hs:∀c x,x∈(val c).getD []->qp nds (root par) tb fm c x)(h:Gw nds par tb val c x):qp nds (root par) tb fm c x:=by
 refine jg h λm nd h1 h2 h3=>?_;have h4:=(L6.mp h1).2;have h5:root par m=c:=ae (beq_iff_eq.mp h4) (bp hc);refine aR h5 ?_;rcases h3 with h3 | ⟨k,h6,h7⟩
 ·exact .table h2 h3
 ·exact .u0 h2 h6 (hs _ _ h7)
theorem KI.same(I:KI nds par tb fm cF U W val){c:Nat}{l:List Int}{W':List Nat}(hl:val c=some l)(hn:∀x,Gw nds par tb val c x->x∈l)(hW:∀d,d∉W'->d≠c->d∉W):KI nds par tb fm cF U W' val :=
 ⟨(λd h1 h2 h3=>by
   by_cases e:d=c
   ·subst e;refine ae hl ?_;exact⟨(Option.some_ne_none _),hn⟩
   ·exact I.1 d h1 h2 (hW d h3 e)),
 I.2,
 I.3,
 I.4,
 I.5⟩
theorem KI.more(H:HI nds ps par aj kn us wt)(I:KI nds par tb fm cF U W val){c:Nat}{l:List Int}{W':List Nat}(hc:c<nds.length)(hr:par.getD c 0=c)(hl:∀x,x∈l↔x∈(val c).getD []\/Gw nds par tb val c x)(hU:∀x∈l,x∈U)(hW:∀d,d∉W'->d≠c->d∉W)(hu:∀m∈us c,root par m∈W'):KI nds par tb fm cF U W' (qa val c (some l)) :=
 ⟨(λd h1 h2 h3=>by
  have key:∀x,Gw nds par tb (qa val c (some l)) d x->Gw nds par tb val d x:=λx zk9=>by
   obtain⟨m,nd,q1,q2,q3⟩:=zk9;refine⟨m,nd,q1,q2,?_⟩;rcases q3 with q3 | ⟨k,q4,q5⟩
   ·exact .inl q3
   ·refine .inr ⟨k,q4,?_⟩;have:root par k≠c:=λe=>by
     have h4:=H.9 m nd q2 k q4;rw[e]at h4;have h5:=hu m h4;have h6:=(L6.mp q1).2;rw[beq_iff_eq.mp h6,bp h2]at h5;exact h3 h5
    rw[ju _ _ this]at q5;exact q5
  by_cases e:d=c
  ·subst e;rw[zz];exact⟨(Option.some_ne_none _),λx hx=>(hl x).mpr (.inr (key x hx))⟩
  ·refine ae (ju _ _ e) ?_;refine bE (I.1 d h1 h2 (hW d h3 e)) λq1 q2=>?_;exact⟨q1,λx hx=>q2 x (key x hx)⟩),
 (λd x hx=>by
  by_cases e:d=c
  ·subst e;rw[zz]at hx;rcases(hl x).mp hx with h | h
   ·exact I.2 d x h
   ·exact h.told H.2 hr I.2
  ·rw[ju _ _ e]at hx;exact I.2 d x hx),
 (λd x hx=>by
  by_cases e:d=c
  ·subst e;rw[zz];exact(hl x).mpr (.inl (I.3 d x hx))
  ·exact ae (ju _ _ e) (I.3 d x hx)),
 (λd x hx=>by
  by_cases e:d=c
  ·subst e;rw[zz]at hx;exact hU x hx
  ·rw[ju _ _ e]at hx;exact I.4 d x hx),
 (λd hd=>by
  by_cases e:d=c
  ·subst e;exact⟨hc,hr⟩
  ·rw[ju _ _ e]at hd;exact I.5 d hd)⟩
theorem KI.done(H:HI nds ps par aj kn us wt)(I:KI nds par tb fm cF U [] val)(h0:∀m x,m<nds.length->x∈fm m->x∈(cF (root par m)).getD []){c:Nat}(hc:c<nds.length)(hr:par.getD c 0=c):
  val c≠none/\∀x,x∈(val c).getD []↔qp nds (root par) tb fm c x:=by
 refine⟨(I.1 c hc hr Lr).1,λx=>⟨I.2 c x,λh=>?_⟩⟩;have F:ve nds (root par) tb fm λc=>(val c).getD []:=by
  have pj:∀{m:Nat},m<nds.length->m∈jh par (root par m):=fun {m} hm=>L6.mpr ⟨K8.mpr (by have:=H.3;exact aM hm this),by simp[yV H.2.3]⟩;refine⟨λm nd x h1 h2=>?_,λm x h1 h2=>I.3 _ x (h0 m x h1 h2),λm nd k x h1 h2 h3=>?_⟩
  ·have hm:=(Kb.mp h1).1;exact(I.1 _ (H.bj hm) (zq H.2.3 m) Lr).2 x ⟨m,nd,pj hm,h1,.inl h2⟩
  ·have hm:=(Kb.mp h1).1;exact(I.1 _ (H.bj hm) (zq H.2.3 m) Lr).2 x ⟨m,nd,pj hm,h1,.inr ⟨k,h2,h3⟩⟩
 exact F.told h
noncomputable def jY(n:Nat)(kvs:List (Int × Value))(W:List Nat):Prop:=And
 (∀c:Nat,(valueAt kvs (c:Int)).isSome=true↔c∈W)
 (∀z∈kvs.map (·.1),∃c:Nat,c<n/\z=(c:Int))
theorem jY.len(h:jY n kvs W)(hn:(kvs.map (·.1)).Nodup):kvs.length<=n:=by
 have:=jb (U:=(List.range n).map Int.ofNat) hn λz hz=>by
  refine zV (h.2 z hz) λc h1 bR=>?_;obtain rfl:=bR;exact Kr.mpr ⟨c,K8.mpr h1,rfl⟩
 simpa using this
theorem zak{c:Int}{z:Int}(hz:z∈(PySem.stored kvs c v).map (·.1)):z∈kvs.map (·.1)\/z=c:=by
 unfold PySem.stored at hz;split at hz
 ·rw[List.map_map]at hz;refine zV (Kr.mp hz) λkv vC bo=>?_;obtain rfl:=bo;refine .inl (Kr.mpr ⟨kv,vC,?_⟩);refine(?_:kv.1=(if kv.1=c then(kv.1,v) else kv).1);split <;> rfl
 ·rw[List.map_append]at hz;rcases Ko.mp hz with hz | hz
  ·exact .inl hz
  ·exact .inr (by simpa using hz)
theorem jY.set{n:Nat}{kvs:List (Int × Value)}(h:jY n kvs W){c:Nat}(hc:c<n){v:Value}{W':List Nat}(hW:∀d,d∈W'↔d∈W\/d=c):jY n (PySem.stored kvs (c:Int) v) W':=by
 refine⟨λd=>?_,λz hz=>?_⟩
 ·rw[jd,hW];by_cases e:d=c
  ·subst e;simp
  ·refine ae (if_neg (XC e)) ?_;rw[h.1];simp[e]
 ·rcases zak hz with hz | hz
  ·exact h.2 z hz
  ·exact⟨c,hc,hz⟩
theorem jY.pop{n:Nat}{kvs:List (Int × Value)}(h:jY n kvs W){c:Nat}{W':List Nat}(hW:∀d,d∈W'↔d∈W/\d≠c):jY n (without kvs (c:Int)) W':=by
 refine⟨λd=>?_,λz hz=>?_⟩
 ·rw[qj,hW];by_cases e:d=c
  ·subst e;simp
  ·refine ae (if_neg (XC e)) ?_;rw[h.1];simp[e]
 ·refine h.2 z ?_;unfold without at hz;refine zV (Kr.mp hz) λkv vC bG=>?_;obtain rfl:=bG;exact Kr.mpr ⟨kv,(L6.mp vC).1,rfl⟩
theorem jY.nil(n:Nat):jY n [] []:=⟨λc=>by simp[valueAt],λz hz=>nomatch hz⟩
end
section
set_option genSizeOf false
set_option genInjectivity false
variable {B:Bs} {A:Around} {S:St}
variable {L:HL} {nds:List Nd} {ps:List (Nat × Nat)} {par:List Nat} {aj:List (List Nat)} {kn:List (Nd × Nat)} {us:Nat->List Nat} {wt:List Nat} {ne:Nat} {K:KL} {n:Nat} {val:Nat->Option (List Int)}
noncomputable def PP(K:KL)(h:Addr)(p:Mp)(vd ra wa:Addr)(t:Tok)(eQ:List DictEntry)(rv:List Value)(we:List DictEntry):Prop:=A6
 (p K.kd=some (.attrs [("heap",.ref h),("analysis",.ref K.an),("values",.ref vd),("told",.ref K.td),("backs",.int 0 t)]))
 (p vd=some (.dict eQ))
 (p K.ad=some (.attrs [("of_node",.ref K.lam),("joined",.ref 491)]))
 (p ra=some (.list rv))
 (p wa=some (.dict we))
 (vd≠wa)
theorem PP.vK(P:PP K h p vd ra wa t eQ rv we)(x:List DictEntry):PP K h (upd p vd (.dict x)) vd ra wa t x rv we :=
 ⟨(zb _ _ (zU P.1 P.2 (by intro e;injection e))).trans P.1,za _ _ _,(zb _ _ (zU P.3 P.2 (by intro e;injection e))).trans P.3,(zb _ _ (zU P.4 P.2 (by intro e;injection e))).trans P.4,(zb _ _ (Ne.symm P.6)).trans P.5,P.6⟩
theorem PP.vL(P:PP K h p vd ra wa t eQ rv we)(x:List Value):PP K h (upd p ra (.list x)) vd ra wa t eQ x we :=
 ⟨(zb _ _ (zU P.1 P.4 (by intro e;injection e))).trans P.1,(zb _ _ (zU P.2 P.4 (by intro e;injection e))).trans P.2,(zb _ _ (zU P.3 P.4 (by intro e;injection e))).trans P.3,za _ _ _,(zb _ _ (zU P.5 P.4 (by intro e;injection e))).trans P.5,P.6⟩
theorem PP.pk(P:PP K h p vd ra wa t eQ rv we)(x:List DictEntry):PP K h (upd p wa (.dict x)) vd ra wa t eQ rv x :=
 ⟨(zb _ _ (zU P.1 P.5 (by intro e;injection e))).trans P.1,(zb _ _ P.6).trans P.2,(zb _ _ (zU P.3 P.5 (by intro e;injection e))).trans P.3,(zb _ _ (zU P.4 P.5 (by intro e;injection e))).trans P.4,za _ _ _,P.6⟩
theorem PP.KR(P:PP K h p vd ra wa t eQ rv we)(h1:k K.kp=some (.is (zd 109 K.kd)))(h2:k K.an=some (.is (zd 45 K.ad)))(D:DK (B:=B) (intKind B.prog B.w) eQ kvs)(V:z5 k n kvs val):KR B K h k p n val :=
 ⟨h1,⟨vd,t,eQ,kvs,P.1,P.2,D,V⟩,h2,P.3⟩
noncomputable def zlW(B:Bs)(K:KL)(h vd ra wa:Addr)(t:Tok)(nds:List Nd)(par:List Nat)(tb:Str->List Int)(fm:Nat->List Int)(cF:Nat->Option (List Int))(U:List Int)(k p:Mp)(val:Nat->Option (List Int))(rs:List Nat)(aL m:Nat):Prop:=A7
 (E5 λeQ eE rv pq vM=>A6 (PP K h p vd ra wa t eQ rv pq) (DK (B:=B) (intKind B.prog B.w) eQ eE) (z5 k par.length eE val) (IntsAre rv (rs.map Int.ofNat)) (DK (B:=B) (intKind B.prog B.w) pq vM) (jY nds.length vM (rs.drop aL)))
 (∀c∈rs,c<nds.length/\par.getD c 0=c)
 (aL<=rs.length)
 ((rs.drop aL).Nodup)
 (KI nds par tb fm cF U (rs.drop aL) val)
 (m=13*Y9 nds.length val+(rs.length - aL))
 (aL+m<=3000)
theorem zcN{l l':List Int}(h:l.Pairwise (· < ·))(h':l'.Pairwise (· < ·))(hs:∀x∈l',x∈l)(aO:l≠l'):l'.length<l.length:=by
 have' this:∃x,x∈l/\x∉l':=by
  refine Classical.byContradiction λhn=>aO (wm h h' λx=>⟨λhx=>?_,hs x⟩);exact Classical.byContradiction λdg=>hn ⟨x,hx,dg⟩
 refine zt this λx h1 h2=>?_;have h3:(x::l').Nodup:=M8.mpr ⟨h2,h'.imp λh=>by exact Im h⟩;have' this:_:=jb (U:=l) h3 λy hy=>by
  rcases Kw.mp hy with rfl | hy
  ·exact h1
  ·exact hs y hy
 rw[List.length_cons]at this;exact Tt this
theorem zez{l:List Int}(hu:A.units<cLine)(ha:S.k a=some (.tup xs))(hx:IntsAre xs l)(hr:l.Pairwise (· < ·))(hv:(o=none/\v = .none)\/∃l' a' cw,o=some l'/\v = .ref a'/\S.k a'=some (.tup cw)/\IntsAre cw l'/\l'.Pairwise (· < ·))(hs:∀x∈o.getD [],x∈l)(h:∀b,(b=false->o=some l)->(b=true->tT o<l.length+1)->Q (.bool b) S):V B A S (compareOp .NotEq (.ref a) v) Q:=by
 rcases hv with ⟨rfl,rfl⟩ | ⟨l',a',cw,rfl,rfl,h1,h2,h3⟩
 ·exact Qu hu (gk ha) (h _ (λe=>by injection e) λZZ=>Kv _)
 ·refine zec hu (gk ha) (gk h1) hx h2 (h _ (λe=>?_) λe=>?_)
  ·have' this:l=l':=by simpa using e
   exact ae this rfl
  ·have' this:l≠l':=by simpa using e
   have' this:_:=zcN hr h3 hs this;refine(?_:l'.length+1<l.length+1);exact Tv this
theorem Qa{l:List Nat}{n:Nat}(h:l.Nodup)(hl:∀x∈l,x<n):l.length<=n:=by
 have' this:_:=jb (U:=List.range n) h λx hx=>K8.mpr (hl x hx);simpa using this
theorem zal{U:List Int}(R:zC 6 A)(UR:HR B L S.k S.b S.u S.l S.h S.v nds par aj kn us wt ne)(H:HI nds ps par aj kn us wt)(VK:KR B K L.h S.k S.p par.length val)(hl:Zf B K S.k)(hm:S.m K.mt=some (.dict es))(T:yL B S.k es kvs tb)(hU:∀c x,x∈(val c).getD []->x∈U)(cI:∀x,∀z∈tb x,z∈U)(hz:U.length<=15)(z1:∀x,(tb x).length<=1000)(hF:∀r x,(∃c,root par c=r/\x∈(val c).getD [])↔∃m,m<nds.length/\root par m=r/\x∈fm m)(h:∀k' p' bD,S.k.le k'->KR B K L.h k' p' par.length bD->(∀c,c<nds.length->par.getD c 0=c->bD c≠none/\∀x,x∈(bD c).getD []↔qp nds (root par) tb fm c x)->(∀c x,x∈(bD c).getD []->x∈U)->(∀c,bD c≠none->c<nds.length/\par.getD c 0=c)->Q .none ⟨k',S.b,S.u,S.l,S.h,S.v,p',S.m⟩):V B A S (call (.ref 94) [.ref K.kp]) Q:=by
 refine zL (f:=94) (binds:=[("self",.ref K.kp)]) (n:=5) (by delta Bs.K;k_is) (by kernel_rfl) R rfl (by rfl) (by kernel_rfl) ?_;intro A' env R' en;dsimp only at en;have hlen:=H.3;have small:=H.1.1;have I:=H.2;obtain⟨t0,ht0⟩:∃t:Tok,t=0:=⟨_,rfl⟩;obtain⟨vd0,_,_,_,v2,_,_,_⟩:=VK.2;have' v1:_:=VK.1;w_fin;o_unpack YO;refine ao (zbm (R'.less (jZ rfl)) UR I VK hU hz λk1 p1 cF aU BF mZ vN=>?_);clear v2;obtain⟨vd,t,eQ,eE,v2,v3,v4,v5⟩:=BF.2;have w1:=BF.1;have' w2:_:=BF.3;have w3:=BF.4;have U1:=UR.mono aU;have' u1:_:=U1.3;refine aB U1.4 λta u2=>?_;w_fin;o_unpack Dw;o_unpack jC;o_unpack gc;refine ao (gX (R'.less (jZ rfl)) U1 I λc k2 out bt p9 hI=>?_);dsimp only[St.put,St.to,St.get]at bt |-;have lo:=hI.length;rw[List.length_map]at lo;have cz:(zK par).length<=12:=by
  have' this:_:=Mh (λj=>par.getD j 0 == j) (List.range par.length);rw[List.length_range]at this;refine(?_:(List.filter _ _).length<=12);exact H0 this hlen small
 have pz:∀c∈zK par,c<nds.length/\par.getD c 0=c:=λc hc=>by
  refine bE (L6.mp hc) λh1 h2=>?_;exact⟨by have' this:_:=K8.mp h1;exact jx this hlen,beq_iff_eq.mp h2⟩
 have' call:∀c,c<nds.length->par.getD c 0=c->c∈zK par:=λc h1 h2=>L6.mpr ⟨K8.mpr (aM h1 hlen),beq_iff_eq.mpr h2⟩;have' cnd:(zK par).Nodup:=List.nodup_range.filter _;w_fin;refine ao (ZU (r:=.p) (gk p9) (z9 lo cz rfl) λra hra=>?_);have sd:p1 ra=none:=hra .p;o_reads;have' x1:_:=bt _ _ w1;have' x2:_:=bt _ _ w2;have vO:=za p1 ra (.list out);have Ed:=(zb p1 (.list out) (zD v2 sd)).trans v2;have BG:=(zb p1 (.list out) (zD v3 sd)).trans v3;have Ee:=(zb p1 (.list out) (zD w3 sd)).trans w3;generalize upd p1 ra (.list out)=p2 at vO Ed BG Ee |-;w_fin
 let Inv1:(Unit)->Nat->St->List (Int × Value)->Prop:=λj i S' l=>S'=⟨k2,S.b,S.u,S.l,S.h,S.v,p2,S.m⟩/\jY nds.length l ((zK par).take i)
 refine wn .p (λj:Unit=>(zf B ra out).src) [] Inv1 en (by kernel_rfl) (by kernel_rfl) trivial R'.3 (λj=>by refine(?_:out.length<=_);exact z9 lo cz rfl) (zY (λj:Unit=>zf B ra out) ?_) (λj env2 bq=>zr _ bq (by rfl) (.inr (by rfl))) ?_ ?_ ?_ ?_
 ·w_fin;exact⟨(),rfl,kY vO,rfl,rfl,jY.nil _⟩
 ·rintro j i S' l ⟨rfl,_⟩;exact kY vO
 ·intro j i S' vs' bg bZ;refine zJ bZ λbo v ZZ bG=>?_;obtain rfl:=bo;obtain rfl:=bG;exact Vs.Sub.set rfl
 ·rintro j env2 bq i S' l vs' bg aQ ⟨rfl,hW⟩ fS;refine zJ fS λcj v hv eB=>?_;obtain rfl:=cj;obtain rfl:=eB;have aA:i<(zK par).length:=by have' this:i<out.length:=aQ;exact jx this lo
  refine aB (jk hI aA) λt6 iM=>?_;have' ev:v = .int ((zK par).getD i 0:Nat) t6:=Option.some.inj (hv.symm.trans iM);subst ev;have e9:(zK par).getD i 0=(zK par)[i]:=by refine ae Kh ?_;refine ae (Ka aA) ?_;rfl
  dsimp only[zi];w_fin;refine⟨_,t6,rfl,?_⟩;w_fin;refine⟨Vs.Sub.refl _,rfl,hW.set ?_ λd=>?_⟩
  ·exact ae e9 ((pz _ (Ky aA)).1)
  ·refine ae Lu ?_;refine ae (Ka aA) ?_;refine ae e9 ?_;refine(?_:d∈(zK par).take i++[_]↔_);rw[List.mem_append,List.mem_singleton]
 ·rintro j S' l pq wa ⟨rfl,hW⟩ D aH;have' rU:(zf B ra out).src.n=(zK par).length:=lo;rw[rU,List.take_length]at hW;have dB:p2 wa=none:=aH .p;o_reads;have' P0:PP K L.h (upd p2 wa (.dict pq)) vd ra wa t eQ out pq :=
   ⟨(zb _ _ (zD Ed dB)).trans Ed,(zb _ _ (zD BG dB)).trans BG,(zb _ _ (zD Ee dB)).trans Ee,(zb _ _ (zD vO dB)).trans vO,za _ _ _,zD BG dB⟩
  generalize upd p2 wa (.dict pq)=p3 at P0 |-;have' iR:_:=Mp.le_trans aU bt;have' K0:KI nds par tb fm cF U (zK par) cF:=by
   refine⟨λc h1 h2 h3=>absurd (call c h1 h2) h3,λc x hx=>?_,λZZ ZZ h=>h,λc x hx=>?_,λc hc=>(by refine bE (vN c hc) λq1 q2=>?_;exact⟨by exact jx q1 hlen,q2⟩)⟩
   ·refine qY ((hF c x).mp ((mZ c x).mp hx)) λm h1 h2 h3=>?_;exact aR h2 (.dT h1 h3)
   ·refine zV ((mZ c x).mp hx) λd ZZ h3=>?_;exact hU d x h3
  have' h0:∀m x,m<nds.length->x∈fm m->x∈(cF (root par m)).getD []:=λm x h1 h2=>(mZ _ x).mpr ((hF _ x).mpr ⟨m,h1,rfl,h2⟩);w_fin
  let Inv2:Nat->Vs->St->Prop:=λm vs' S'=>E6 λk p bD rs aL t2=>A4 (S'=⟨k,S.b,S.u,S.l,S.h,S.v,p,S.m⟩) (k2.le k) (zlW B K L.h vd ra wa t nds par tb fm cF U k p bD rs aL m) (Vs.Sub [("self",.ref K.kp),("row",.ref ra),("waiting",.ref wa),("spot",.int (aL:Nat) t2)] vs')
  refine wx Inv2 _ ⟨k2,p3,cF,zK par,0,_,rfl,Mp.le_refl _,⟨⟨eQ,eE,out,pq,l,P0,v4,v5.mono bt,hI,D,hW⟩,pz,Kt _,cnd,K0,rfl,by have' this:_:=zey nds.length cF;exact Tw this cz small⟩,Vs.Sub.refl _⟩ ?_;rintro m vs' S' ⟨k,p,bD,rs,aL,t2,rfl,le,⟨⟨eQ,eE,rv,pq,vM,P,VD,VV,RI,WD,WW⟩,fh,BH,bB,KK,rfl,nN⟩,bV⟩;have BJ:=RI.length;rw[List.length_map]at BJ;have' vP:(rs.drop aL).length<=12:=by
   have' this:_:=Qa bB λx hx=>(fh x (Vk hx)).1;exact bX this small
  rw[List.length_drop]at vP;refine jT bV ?_;have om:=Mp.le_trans iR le;have y1:=le _ _ x1;have y2:=le _ _ x2;have' q1:_:=P.1;have q2:=P.4;have q3:=P.5;have' q4:_:=P.2;have' U2:_:=UR.mono om;have' yu:_:=U2.3;w_fin;o_unpack yo;refine ao (zI (by w_left) (tu (ae BJ (Ks (Om BH nN) (by decide)))) λt3=>?_);refine ae BJ ?_;w_fin;refine ao (xa ?_);refine zc ?_;by_cases aC:aL<rs.length
  ·have cc:decide (((aL:Nat):Int)<((rs.length:Nat):Int))=true:=decide_eq_true (Tx aC BH);refine z7 cc ?_;refine aB (jk RI aC) λt4 MK=>?_;have e9:rs.getD aL 0=rs[aL]:=by refine ae Kh ?_;refine ae (Ka aC) ?_;rfl
   have f7:rs.drop aL=rs.getD aL 0::rs.drop (aL+1):=ae e9 (List.drop_eq_getElem_cons aC);have' m6:_:=fh (rs.getD aL 0) (ae e9 (Ky aC));generalize rs.getD aL 0=c at MK e9 f7 m6;refine bE m6 λeD rT=>?_;rw[f7,List.nodup_cons]at bB;refine bE bB λhcn bB=>?_;w_fin;refine yQ (names:=["c","spot"]) (qA en (by rfl)) R'.3 ?_;refine zN ?_;w_fin;refine ao (zm (by w_left) MK ?_ (tu (Ks (Mm ..) (Ks nN (by decide)))));w_fin;refine ao (yO λt5=>?_);w_fin;refine ze (Kq _ _) λc9 k3 aV se ZZ=>?_;refine⟨c9,_,rfl,gk se,rfl,?_⟩;refine yR en (by rfl) (.inl rfl) ?_;refine yR en (by rfl) (.inl rfl) ?_;dsimp only[St.put,St.to,St.get,List.map,qk];w_means;refine(?_:W B A' true env [("self",.ref K.kp),("row",.ref ra),("waiting",.ref wa),("spot",.int (((aL:Nat):Int)+1) t5),("c",.int (c:Nat) t4)] _ _ _);have' cq:(((aL:Nat):Int)+1)=((aL+1:Nat):Int):=Hu;refine ae cq ?_;have cQ:=Mp.le_trans om aV;have ML:=aV _ _ y1;have MM:=aV _ _ y2;have' hwc:∃v,valueAt vM ((c:Nat):Int)=some v:=M6.mp ((WW.1 c).mpr (ae f7 (.head _)));refine aB hwc λwv hwv=>?_;have' wz:_:=WW.len WD.2.2;w_fin;o_unpack KY;refine ao (J0 (r:=.p) (k:=((c:Nat):Int)) q3 WD (ik _ _) (by rfl) hwv (xL wz small rfl) λoq MN=>?_);o_reads;have P2:=P.pk oq;generalize upd p wa (.dict oq)=p4 at P2 |-;have MO:jY nds.length (without vM ((c:Nat):Int)) (rs.drop (aL+1)):=WW.pop λd=>by
    refine ae f7 ?_;rw[List.mem_cons];constructor
    ·intro hd;exact⟨.inr hd,λe=>hcn (e▸hd)⟩
    ·rintro⟨e | h,aO⟩
     ·exact absurd e aO
     ·exact h
   clear q1 q2 q3 q4;have q1:=P2.1;have q4:=P2.2;w_fin;o_unpack wZ;have' KRc:KR B K L.h k3 p4 par.length bD:=P2.KR ML MM VD (VV.mono aV);refine ao (Q3 (U:=U) R' (UR.mono cQ) H KRc (hl.mono cQ) hm (T.mono cQ) eD KK.4 cI hz z1 λa5 k5 MC l5 aP g1 g2 g3 g4=>?_);dsimp only[St.put,St.to,St.get]at aP |-;have Ef:=aP _ _ ML;have' z2'':_:=aP _ _ MM;have fg:=Mp.le_trans aV aP;have dW:=Mp.le_trans om fg;have V5:=VV.mono fg;have MP:∀x∈l5,x∈U:=λx hx=>by
    rcases(g4 x).mp hx with h1 | ⟨mm,nd,h1,h2,h3⟩
    ·exact KK.4 c x h1
    ·rcases h3 with h3 | ⟨kk,h4,h5⟩
     ·exact cI _ x h3
     ·exact KK.4 _ x h5
   have' l5z:_:=xv (U:=U) g3 MP;have' hu:A'.units<cLine:=R'.u;have zu:=aP _ _ (aV _ _ yu);w_fin;o_unpack je;o_unpack Z6;refine ao (yz (k:=((c:Nat):Int)) (by w_left) VD (ik _ _) ?_);have pA:∀W':List Nat,(∀d∈rs.drop (aL+1),d∈W')->∀d,d∉W'->d≠c->d∉rs.drop aL:=λW' hW' d h1 h2 h3=>by
    rw[f7]at h3;rcases Kw.mp h3 with e | h3
    ·exact h2 e
    ·exact h1 (hW' d h3)
   have' f9:∀Eg,Vs.Sub [("self",.ref K.kp),("row",.ref ra),("waiting",.ref wa),("spot",.int ((aL+1:Nat):Int) t5)] Eg->bD c=some l5->(∃m,m<13*Y9 nds.length bD+(rs.length - aL)/\Inv2 m Eg ⟨k5,S.b,S.u,S.l,S.h,S.v,p4,S.m⟩):=λEg hv1 hv2 =>
    ⟨13*Y9 nds.length bD+(rs.length - (aL+1)),Nat.add_lt_add_left (Nat.sub_lt_sub_left aC (Ln _)) _,k5,p4,bD,rs,aL+1,t5,rfl,Mp.le_trans le fg,⟨⟨eQ,eE,rv,oq,_,P2,VD,V5,RI,MN,MO⟩,fh,aC,bB,KK.same hv2 (λx hx=>(g4 x).mpr (.inr hx)) (pA _ λd hd=>hd),rfl,Oi aC nN⟩,hv1⟩
   refine ao (zez (o:=bD c) hu g1 g2 g3 ?_ (λx hx=>(g4 x).mpr (.inl hx)) λb hb0 fQ=>?_)
   ·rcases V5.1 c with ⟨q1,q2⟩ | ⟨l,a,us,q1,q2,q3,q4,q5⟩
    ·exact ae q2 (.inl ⟨q1,rfl⟩)
    ·exact ae q2 (.inr ⟨l,a,us,q1,rfl,q3,q4,q5⟩)
   refine zc ?_;have vQ:∀v,Vs.Sub [("self",.ref K.kp),("row",.ref ra),("waiting",.ref wa),("spot",.int ((aL+1:Nat):Int) t5)] [("self",.ref K.kp),("row",.ref ra),("waiting",.ref wa),("spot",.int ((aL+1:Nat):Int) t5),("c",.int (c:Nat) t4),("found",v)]:=λv y u hy=>by
    have' e1:_:=(Vs.Sub.set (vs:=[("self",.ref K.kp),("row",.ref ra),("waiting",.ref wa),("spot",.int ((aL+1:Nat):Int) t5)]) (x:="c") (v:=.int (c:Nat) t4) rfl) y u hy;exact(Vs.Sub.set (vs:=[("self",.ref K.kp),("row",.ref ra),("waiting",.ref wa),("spot",.int ((aL+1:Nat):Int) t5),("c",.int (c:Nat) t4)]) (x:="found") (v:=v) rfl) y u e1
   cases b with
   | false =>
    refine jf rfl ?_;w_fin;exact f9 _ (vQ _) (hb0 rfl)
   | true =>
    refine z7 rfl ?_;clear f9;have bN:=zcM eD (fQ rfl) (by exact bX l5z hz:l5.length<=15);w_fin;refine jK ?_;w_fin;o_unpack je;have' kz:_:=V5.len VD.2.2;refine ao (yP (r:=.p) (k:=((c:Nat):Int)) P2.2 VD (ik _ _) (H6 kz hlen small rfl) λou VD3=>?_);o_reads;have P3:=P2.vK ou;generalize upd p4 vd (.dict ou)=p5 at P3 |-;have' V6:_:=V5.set (c:=c) (aM eD hlen) g1 g2 g3;clear q1 q4;have' q1:_:=P3.1;w_fin
    let iN:(Addr × { r:List Value // r.length<=1000000 })->Nat->Vs->St->Prop:=λj i vs' S'=>∃ns:List Nat,A3 (IntsAre j.2.1 (ns.map Int.ofNat)) (∀m,m∈ns↔m∈us c) (E6 fun(k6:Mp) (p6:Mp) (hJ:List Nat) (oz:List Value) (iS:List DictEntry) (hM:List (Int × Value))=>IE (S'=⟨k6,S.b,S.u,S.l,S.h,S.v,p6,S.m⟩) (k5.le k6) (k6 j.1=some (.list j.2.1)) (PP K L.h p6 vd ra wa t ou oz iS) (IntsAre oz (hJ.map Int.ofNat)) (DK (B:=B) (intKind B.prog B.w) iS hM) (∀c∈hJ,c<nds.length/\par.getD c 0=c) (aL+1<=hJ.length) ((hJ.drop (aL+1)).Nodup) (jY nds.length hM (hJ.drop (aL+1))) (∀d∈rs.drop (aL+1),d∈hJ.drop (aL+1)) (∀q,q<i->root par (ns.getD q 0)∈hJ.drop (aL+1)) (Vs.Sub [("self",.ref K.kp),("row",.ref ra),("waiting",.ref wa),("spot",.int ((aL+1:Nat):Int) t5)] vs'))
    refine qi (λj:Addr × { r:List Value // r.length<=1000000 }=>(zf B j.1 j.2.1).src) iN R'.3 (zY (λj:Addr × { r:List Value // r.length<=1000000 }=>zf B j.1 j.2.1) ?_) (λj=>zr _ en (by rfl) (.inl rfl)) ?_ ?_ ?_
    ·w_fin;o_unpack jC;o_unpack Go;refine ao (zaf (R'.less (jZ rfl)) (UR.mono dW) H eD λc7 k7 Eh ns bO oa MQ sf hz7=>?_);dsimp only[St.put,St.to,St.get]at bO |-;have MR:=MQ.length;rw[List.length_map]at MR;rw[(bp rT:root par c=c)]at sf;refine⟨(c7,⟨Eh,by exact z9 MR hz7 rfl⟩),rfl,gk oa,ns,MQ,sf,k7,p5,rs,rv,oq,_,rfl,bO,oa,P3,RI,MN,fh,aC,bB,MO,λd hd=>hd,λq hq=>absurd hq (K4 _),vQ _⟩
    ·rintro j i vs' S' ⟨ns,_,_,k6,p6,hJ,oz,iS,hM,rfl,aZ,vR,_⟩;exact gk vR
    ·rintro j i vs' S' cW bg aQ ⟨ns,iz,m7,k6,p6,hJ,oz,iS,hM,rfl,aZ,vR,P6,fj,tU,cJ,m8,hO,tV,m9,cM,cG⟩ og;refine zJ og λiI v hv eC=>?_;obtain rfl:=iI;obtain rfl:=eC;have' vS:_:=iz.length;rw[List.length_map]at vS;have aA:i<ns.length:=by have' this:i<j.2.1.length:=aQ;exact jx this vS
     refine aB (jk iz aA) λt8 oj=>?_;have' ev:v = .int (ns.getD i 0:Nat) t8:=Option.some.inj (hv.symm.trans oj);subst ev;have' nO:ns.getD i 0∈us c:=(m7 _).mp (by refine ae Kh ?_;refine ae (Ka aA) ?_;exact Ky aA);have kJ:=H.10 c rT eD _ nO;generalize Ei:ns.getD i 0=mm at nO kJ |-;have kQ:=H.bj kJ;refine jT (vs':=[("self",.ref K.kp),("row",.ref ra),("waiting",.ref wa),("spot",.int ((aL+1:Nat):Int) t5),("user",.int (mm:Nat) t8)]) (λy u hy=>?_) ?_
     ·rw[zw];by_cases e:y="user"
      ·subst e;refine ae (if_pos rfl) ?_;exact hy
      ·refine ae (if_neg e) ?_;refine cG y u ?_;have' e2:zo [(("self":Str),Value.ref K.kp),("row",.ref ra),("waiting",.ref wa),("spot",.int ((aL+1:Nat):Int) t5),("user",.int (mm:Nat) t8)] y=zo (zi [("self",.ref K.kp),("row",.ref ra),("waiting",.ref wa),("spot",.int ((aL+1:Nat):Int) t5)] "user" (.int (mm:Nat) t8)) y:=rfl;rw[e2,zw,if_neg e]at hy;exact hy
     have pB:∀v,Vs.Sub [("self",.ref K.kp),("row",.ref ra),("waiting",.ref wa),("spot",.int ((aL+1:Nat):Int) t5)] [("self",.ref K.kp),("row",.ref ra),("waiting",.ref wa),("spot",.int ((aL+1:Nat):Int) t5),("user",.int (mm:Nat) t8),("late",v)]:=λv y u hy=>by
      have' e1:_:=(Vs.Sub.set (vs:=[("self",.ref K.kp),("row",.ref ra),("waiting",.ref wa),("spot",.int ((aL+1:Nat):Int) t5)]) (x:="user") (v:=.int (mm:Nat) t8) rfl) y u hy;exact(Vs.Sub.set (vs:=[("self",.ref K.kp),("row",.ref ra),("waiting",.ref wa),("spot",.int ((aL+1:Nat):Int) t5),("user",.int (mm:Nat) t8)]) (x:="late") (v:=v) rfl) y u e1
     have' s1:_:=aZ _ _ Ef;have' s2:_:=aZ _ _ zu;have' s3:_:=P6.1;have' s4:_:=P6.5;have' s5:_:=P6.4;w_fin;o_unpack jC;o_unpack jD;refine ao (jO (R'.less (jZ rfl)) (UR.mono (Mp.le_trans dW aZ)) I (Io kJ hlen Ei) λt9=>?_);w_fin;refine ao (XI (k:=((root par mm:Nat):Int)) (by w_left) tU (ik _ _) ?_);refine zc ?_;have tK:=tV.1 (root par mm);cases hb:(valueAt hM ((root par mm:Nat):Int)).isSome with
     | true =>
      refine jf rfl ?_;w_fin;refine⟨ns,iz,m7,k6,p6,hJ,oz,iS,hM,rfl,aZ,vR,P6,fj,tU,cJ,m8,hO,tV,m9,λq hq=>?_,pB _⟩;by_cases e:q=i
      ·exact ae e (ae Ei (tK.mp hb))
      ·exact cM q (xB hq e)
     | false =>
      refine z7 rfl ?_;have' Ej:root par mm∉hJ.drop (aL+1):=λh=>by rw[tK.mpr h]at hb;injection hb
      have' wz6:_:=tV.len tU.2.2;have' l6:_:=fj.length;rw[List.length_map]at l6;have' lH:_:=Qa hO λx hx=>(cJ x (Vk hx)).1;rw[List.length_drop]at lH;w_fin;refine jK ?_;w_fin;refine ao (yP (r:=.p) (k:=((root par mm:Nat):Int)) P6.5 tU (ik _ _) (xL wz6 small rfl) λsg WD7=>?_);o_reads;have P7:=P6.pk sg;generalize upd p6 wa (.dict sg)=p7 at P7 |-;clear s3 s4 s5;have' s5:_:=P7.4;w_fin;o_unpack jS;refine ao (jR (r:=.p) P7.4 (Tz small nN aC bN l6 lH) ?_);o_reads;have' P8:_:=P7.vL (oz++[.int (root par mm:Nat) t9]);generalize upd p7 ra (.list (oz++[.int (root par mm:Nat) t9]))=p8 at P8 |-;w_fin;have ed:(hJ++[root par mm]).drop (aL+1)=hJ.drop (aL+1)++[root par mm]:=List.drop_append_of_le_length m8;refine⟨ns,iz,m7,k6,p8,hJ++[root par mm],_,sg,_,rfl,aZ,vR,P8,gg fj,WD7,?_,ae Ki (ae Kj (TA m8)),?_,tV.set kQ λd=>by refine ae ed ?_;rw[List.mem_append,List.mem_singleton],?_,?_,pB _⟩
      ·intro d hd;rcases Ko.mp hd with hd | hd
       ·exact cJ d hd
       ·exact ae (Kf.mp hd) ⟨kQ,zq I.3 mm⟩
      ·refine ae ed ?_;rw[List.nodup_append];exact⟨hO,(Ll _ _),λx hx y hy e=>Ej (aR (Kf.mp hy) (aR e hx))⟩
      ·intro d hd;exact ae ed (Ko.mpr (.inl (m9 d hd)))
      ·intro q hq;refine ae ed ?_;by_cases e:q=i
       ·exact ae e (ae Ei (Ko.mpr (.inr (.head _))))
       ·exact Ko.mpr (.inl (cM q (xB hq e)))
    ·rintro j vs' S' ⟨ns,iz,m7,k6,p6,hJ,oz,iS,hM,rfl,aZ,vR,P6,fj,tU,cJ,m8,hO,tV,m9,cM,cG⟩;have' vS:_:=iz.length;rw[List.length_map]at vS;have' rU:(zf B j.1 j.2.1).src.n=ns.length:=vS;rw[rU]at cM;have lH:=Qa hO λx hx=>(cJ x (Vk hx)).1;rw[List.length_drop]at lH;w_fin;refine⟨13*Y9 nds.length (qa bD c (some l5))+(hJ.length - (aL+1)),by exact TC bN lH small,k6,p6,qa bD c (some l5),hJ,aL+1,t5,rfl,Mp.le_trans le (Mp.le_trans fg aZ),⟨⟨ou,_,oz,iS,hM,P6,VD3,V6.mono aZ,fj,tU,tV⟩,cJ,m8,hO,KK.more H eD rT g4 MP (pA _ m9) (λm hm=>?_),rfl,by exact TF nN bN lH small⟩,cG⟩;refine aB (K9.mp ((m7 m).mpr hm)) λq hq=>?_;have' fW:_:=(Kb.mp hq).1;have' this:_:=cM q fW;rw[List.getD_eq_getElem?_getD,hq]at this;exact this
  ·have' cc:decide (((aL:Nat):Int)<((rs.length:Nat):Int))=false:=decide_eq_false (TG BH aC);refine jf cc ?_;w_fin;have ed:rs.drop aL=[]:=List.drop_eq_nil_of_le (TH BH aC);rw[ed]at KK;refine⟨⟨k,S.b,S.u,S.l,S.h,S.v,p,S.m⟩,St.le_refl _,h k p bD om (P.KR y1 y2 VD VV) (λc hc hr=>KK.done H h0 hc hr) KK.4 KK.5⟩
end
section
set_option genSizeOf false
set_option genInjectivity false
variable {B:Bs} {A:Around} {S:St}
/-! tuples of pS base -/
theorem zbn(hb:B.h0.get? a=some (wp xs n))(hz:xs.length<2 ^ 62)(h:∀t,Q (.int xs.length t) S):V B A S (call (.builtin "len") [.ref a]) Q:=λX s o =>
 PyProof.Rows.len_tuple (show IsTup s.heap a xs.toArray from⟨_,o.keep _ _ hb,rfl,n,rfl⟩) (by exact ae Kd (oV hz)) (ae Kd ⟨S,o.toks _,h _⟩)
theorem zbo{n k:Nat}(hb:B.h0.get? a=some (wp xs n))(hx:xs[k]? = some v)(h:Q v S)(hz:k<2 ^ 62)(hs:subscripted slice false (.ref a) (.int k t)=operate [.ref a,.int k t] (getItem (.ref a) (.int k t)):=by with_unfolding_all rfl):V B A S (subscriptTail value slice (.ref a) (.int k t)) Q:=λX s o =>
 item_tupleT (show IsTup s.heap a xs.toArray from⟨_,o.keep _ _ hb,rfl,n,rfl⟩) Cw (oV hz) (j:=k) (C2 (Kb.mp hx).1) hx ⟨S,o,h⟩ hs
/-! nodes in a list -/
theorem EqAt.node(hu:A.units<cLine)(ha:s.heap.IsTuple a vs.toArray)(hb:s.heap.IsTuple b ws.toArray)(hx:Yn x ns vs)(hy:Yn y ms ws):EqAt A s (.ref a) (.ref b) (decide (x=y/\ns=ms)):=by
 refine j8 hx λt r bR hr=>?_;obtain rfl:=bR;refine j8 hy λu q bo hq=>?_;obtain rfl:=bo;by_cases e:a=b
 ·subst e;refine xM ha λo e1 c1 n d1=>?_;refine xM hb λo2 e2 c2 m d2=>?_;rw[e1]at e2;obtain rfl:=Option.some.inj e2;rw[d1]at d2;injection d2 with d2 _;have d3:(.str x t::r:List Value) = .str y u::q:=by simpa using d2
  injection d3 with zz1 zz2;injection zz1 with zz3 zz4;obtain rfl:=zz3;obtain rfl:=zz4;obtain rfl:=zz2;have' this:ns=ms:=aR hr.nums (ae hq.nums rfl);refine ae (decide_eq_true ⟨rfl,this⟩) ?_;exact EqAt.same
 ·refine EqAt.of_refs e ?_;have:=RcAt.tuples (A:=A) (e:=λj=>match j with | 0=>x == y | j+1=>ns.getD j 0 == ms.getD j 0) ha hb hu (λj h1 h2=>by
   cases j with
   | zero=>exact EqAt.str_str _ _ _ _
   | succ j =>
    refine aB (gA hr (j:=j) (by simpa using h1)) λt e1=>?_;refine aB (gA hq (j:=j) (by simpa using h2)) λu e2=>?_;have' e3:(.str x _::r:List Value).toArray[j+1] = .int (ns.getD j 0) t:=by simpa using e1
    have' e4:(.str y _::q:List Value).toArray[j+1] = .int (ms.getD j 0) u:=by simpa using e2
    refine ae e3 ?_;refine ae e4 ?_;exact EqAt.int_int _ _ _ _)
  rw[List.size_toArray,List.size_toArray,List.length_cons,List.length_cons,hr.length,hq.length]at this;have' e5:((List.range (min (ns.length+1) (ms.length+1))).all (λj=>match j with | 0=>x == y | j+1=>ns.getD j 0 == ms.getD j 0)&&ns.length+1 == ms.length+1)=decide (x=y/\ns=ms):=by
   refine ae (show min (ns.length+1) (ms.length+1)=min ns.length ms.length+1 by exact TJ) ?_;refine ae List.range_succ_eq_map ?_;refine ae List.all_cons ?_;refine ae List.all_map ?_;have' e6:_:=Dv (ns:=ns) (ms:=ms);have' e7:(ns.length+1 == ms.length+1)=(ns.length == ms.length):=by
    by_cases h:ns.length=ms.length
    ·simp[h]
    ·exact ae (beq_eq_false_iff_ne.mpr h) (ae (beq_eq_false_iff_ne.mpr (TK h)) rfl)
   refine ae e7 ?_;rw[Bool.and_assoc];refine(?_:((x == y)&&((List.range (min ns.length ms.length)).all (λj=>ns.getD j 0 == ms.getD j 0)&&ns.length == ms.length))=_);refine ae e6 ?_;by_cases h1:x=y
   ·subst h1;simp
   ·simp[h1]
  rw[e5]at this;exact this
noncomputable def jl(k:Mp)(as:List Addr)(nds:List Nd):Prop:=as.length=nds.length/\∀(i:Nat) a nd,as[i]? = some a->nds[i]? = some nd->jH k a nd.1 (nd.2.map Int.ofNat)
theorem jl.mono(h:jl k as nds)(le:k.le k'):jl k' as nds:=⟨h.1,λi a nd e1 e2=>(h.2 i a nd e1 e2).mono le⟩
theorem jl.snoc{k:Mp}{as:List Addr}{nds:List Nd}(h:jl k as nds){a:Addr}{nd:Nd}(ha:jH k a nd.1 (nd.2.map Int.ofNat)):jl k (as++[a]) (nds++[nd]):=by
 refine⟨by simp[h.1],λi b z hb hz=>?_⟩;have h1:=h.1;by_cases e:i<as.length
 ·rw[List.getElem?_append_left e]at hb;rw[List.getElem?_append_left (jx e h1)]at hz;exact h.2 i b z hb hz
 ·have h4:=(Kb.mp hb).1;rw[List.length_append,List.length_singleton]at h4;have' this:i=as.length:=qZ h4 e;subst this;rw[List.getElem?_append_right (Nat.le_refl _),Nat.sub_self]at hb;rw[h1,List.getElem?_append_right (Nat.le_refl _),Nat.sub_self]at hz;obtain rfl:=Option.some.inj hb;obtain rfl:=Option.some.inj hz;exact ha
theorem gY(hu:A.units+20<cLine)(hd:S.has d (.list (as.map .ref)))(hN:jl S.k as nds)(hb:jH S.k b nd.1 (nd.2.map Int.ofNat))(h:Q (.bool (decide (nd∉nds))) S):V B A S (compareOp .NotIn (.ref b) (.ref d)) Q:=λX s o=>by
 refine zt hb λvs e hv=>?_;have' tb:_:=o.tup (gk e);have' key:∀(i:Nat) a,as[i]? = some a->∃z,nds[i]? = some z/\EqAt A.in1 s (.ref a) (.ref b) (decide (z=nd)):=λi a ha=>by
  have' hi:_:=(Kb.mp ha).1;have eZ:i<nds.length:=aR hN.1 hi;refine zt (hN.2 i a _ ha (Ka eZ)) λws e2 hw=>?_;refine⟨_,Ka eZ,?_⟩;have' this:_:=EqAt.node (A:=A.in1) (s:=s) (by refine(?_:A.units+1<_);exact g0 hu) (o.tup (gk e2)) tb hw hv;have' e3:decide (nds[i].1=nd.1/\nds[i].2.map Int.ofNat=nd.2.map Int.ofNat)=decide (nds[i]=nd):=by
   refine decide_eq_decide.mpr ⟨λzp=>by refine bE zp λh1 h2=>?_;exact Prod.ext h1 ((Va (λa b e=>Int.ofNat.inj e)).mp h2),λh=>ae h ⟨rfl,rfl⟩⟩
  rw[e3]at this;exact this
 have' pick:∀y,y∈(as.map Value.ref).toArray->EqAt A.in1 s y (.ref b) (match y with | .ref a=>(match as.findIdx? (· == a) with | some i=>decide (nds[i]? = some nd) | none=>false) | _=>false):=λy hy=>by
  have Ek:y∈as.map Value.ref:=by simpa using hy
  refine zV (Kr.mp Ek) λa ha bG=>?_;obtain rfl:=bG;dsimp only;cases q:as.findIdx? (· == a) with
  | none =>
   rw[List.findIdx?_eq_none_iff]at q;have' this:_:=q a ha;simp at this
  | some i =>
   dsimp only;obtain⟨h1,h2,_⟩:=Vb.mp q;have' h3:as[i]=a:=by simpa using h2
   refine zt (key i a (by refine ae (Ka h1) ?_;refine ae h3 ?_;rfl)) λz lj Bp=>?_;refine ae lj ?_;have' this:decide (some z=some nd)=decide (z=nd):=decide_eq_decide.mpr ⟨λh=>Option.some.inj h,λh=>ae h rfl⟩;exact ae this Bp
 refine notIn_listAt _ (o.list hd) pick ⟨S,o,?_⟩;have' fin:(!((as.map Value.ref).toArray.any λy=>(match y with | .ref a=>(match as.findIdx? (· == a) with | some i=>decide (nds[i]? = some nd) | none=>false) | _=>false)))=decide (nd∉nds):=by
  by_cases hm:nd∈nds
  ·refine aB (K9.mp hm) λi hi=>?_;have kN:i<as.length:=ae hN.1 ((Kb.mp hi).1);refine ae (decide_eq_false (by simpa using hm)) ?_;rw[Bool.not_eq_false',Array.any_eq_true'];refine⟨.ref as[i],by simp,?_⟩;dsimp only;cases q:as.findIdx? (· == as[i]) with
   | none =>
    rw[List.findIdx?_eq_none_iff]at q;have' this:_:=q as[i] (Ky kN);simp at this
   | some j =>
    dsimp only;obtain⟨h1,h2,_⟩:=Vb.mp q;have' h3:as[j]=as[i]:=by simpa using h2
    have' n1:_:=hN.2 i as[i] nd (Ka kN) hi;have MS:j<nds.length:=aR hN.1 h1;have' n2:_:=hN.2 j as[j] _ (Ka h1) (Ka MS);rw[h3]at n2;refine bE (n1.inj n2) λg1 g2=>?_;refine ae (Ka MS) ?_;have' this:nds[j]=nd:=Prod.ext g1.symm ((Va (λa b e=>Int.ofNat.inj e)).mp g2).symm;simp[this]
  ·refine ae (decide_eq_true hm) ?_;rw[Bool.not_eq_true',Array.any_eq_false'];intro y hy;have Ek:y∈as.map Value.ref:=by simpa using hy
   refine zV (Kr.mp Ek) λa ha cA=>?_;obtain rfl:=cA;dsimp only;cases q:as.findIdx? (· == a) with
   | none=>exact Kn
   | some i =>
    dsimp only;refine ae decide_eq_true_eq ?_;intro h;exact hm (Kx h)
 exact ae fin h
theorem zko(x:Int):Builtin.divisionGoesByPylong x 7=false:=by
 unfold Builtin.divisionGoesByPylong;dsimp only;have' h:decide ((if ((7:Int) == 0)=true then 0 else(7:Int).natAbs.log2 / 30+1) > 300)=false:=by decide +kernel
 refine ae h ?_;rw[Bool.false_and]
/-! pS draws -/
noncomputable def MT(B:Bs)(k:Mp)(ra:Addr):Prop:=E2 λrv rs=>A3 (IntsAre rv rs) (rv.length<=1000) (k ra=some (.list rv)\/∃n,B.h0.get? ra=some (wp rv n))
structure qb (B:Bs) (k m:Mp) (lo:Addr):Prop where
 ex:E5 λes kvs ra i t=>A7 (m lo=some (.dict es)) (DK (B:=B) (strKind B.prog B.w) es kvs) (kvs.length<=2) (valueAt kvs ("row":Str)=some (.ref ra)) (valueAt kvs ("at":Str)=some (.int i t)) (-1<=i) (MT B k ra)
theorem qb.mono{lo:Addr}(h:qb B k m lo)(le:k.le k'):qb B k' m lo:=by
 obtain⟨es,kvs,ra,i,t,h1,h2,h3,h4,h5,h6,rv,rs,h7,h8,h9⟩:=h.ex;exact⟨es,kvs,ra,i,t,h1,h2,h3,h4,h5,h6,rv,rs,h7,h8,h9.imp (le _ _) id⟩
theorem zeA{a:Int}{n:Nat}(hn:0<n):∃x:Nat,x<n/\a.fmod (n:Int)=(x:Int):=by
 have' h1:0<=a.fmod (n:Int):=Int.fmod_nonneg_of_pos a (Ip hn);have' h2:a.fmod (n:Int)<n:=Int.fmod_lt_of_pos a (Ip hn);exact⟨(a.fmod (n:Int)).toNat,(Int.toNat_lt h1).mpr h2,Cy h1⟩
theorem qR{lo:Addr}{many:Nat}{t0:Tok}(R:zC 1 A)(Lo:qb B S.k S.m lo)(hm:0<many)(h:∀(x:Nat) t es,x<many->qb B S.k (upd S.m lo (.dict es)) lo->Q (.int (x:Nat) t) ⟨S.k,S.b,S.u,S.l,S.h,S.v,S.p,upd S.m lo (.dict es)⟩):V B A S (call (.ref 505) [.ref lo,.int many t0]) Q:=by
 refine zL (f:=505) (binds:=[("lot",.ref lo),("many",.int many t0)]) (n:=0) (by delta Bs.K;k_is) (by kernel_rfl) R rfl (by rfl) (by kernel_rfl) ?_;intro A' env R' en;dsimp only at en;obtain⟨es,kvs,ra,i,t,h1,h2,h3,h4,h5,h6,rv,rs,h7,h8,h9⟩:=Lo.ex;w_fin;refine jK ?_;w_fin;refine ao (jG (k:=("at":Str)) (by w_left) h2 (sk _ _) h5 ?_);w_fin;refine ao (yO λt1=>?_);w_fin;refine ao (yP (r:=.m) (k:=("at":Str)) h1 h2 (sk _ _) (zS h3 rfl) λcq D1=>?_);o_reads;have c1:=za S.m lo (.dict cq);have e1:valueAt (PySem.stored kvs ("at":Str) (.int (i+1) t1)) ("row":Str)=some (.ref ra):=by rewrite [jd];refine ae (if_neg (by decide)) ?_;exact h4
 have e2:valueAt (PySem.stored kvs ("at":Str) (.int (i+1) t1)) ("at":Str)=some (.int (i+1) t1):=by rewrite [jd];refine ae (if_pos rfl) ?_;rfl
 have' e3:(PySem.stored kvs ("at":Str) (.int (i+1) t1)).length<=2:=by rewrite [qX];refine ae h5 ?_;exact h3
 have' L1:qb B S.k (upd S.m lo (.dict cq)) lo:=⟨cq,_,ra,i+1,t1,c1,D1,e3,e1,e2,by exact TL h6,rv,rs,h7,h8,h9⟩;have' fin:_:=λx t=>h x t cq;generalize upd S.m lo (.dict cq)=m1 at c1 L1 fin |-;generalize PySem.stored kvs ("at":Str) (.int (i+1) t1)=vT at D1 e1 e2 e3;obtain⟨j,hj⟩:∃j:Nat,i+1=(j:Int):=⟨(i+1).toNat,Cy (Int.add_le_add_right h6 1)⟩;rw[hj]at e2;have' BJ:_:=h7.length;w_fin;refine ao (jG (k:=("row":Str)) (by w_left) D1 (sk _ _) e1 ?_);w_fin;refine wu ?_;w_fin;refine ao (jG (k:=("at":Str)) (by w_left) D1 (sk _ _) e2 ?_);w_fin;o_unpack yo;w_fin;have fin2:∀(z:Int) t2,W B A' true env [("lot",.ref lo),("many",.int many t0),("row",.ref ra)] ⟨S.k,S.b,S.u,S.l,S.h,S.v,S.p,m1⟩ (binaryOp .Mod (.int z t2) (.int many t0)) (λv ZZ S'=>∃bg,bg.le S'/\Q v bg):=λz t2=>by
  refine ao (Q8 (TN hm) λt3=>?_);refine zt (zeA (a:=z) hm) λx hx1 hx2=>?_;refine ae hx2 ?_;exact⟨_,St.le_refl _,fin x t3 hx1 L1⟩
 have' pick:∀(v:Value) (t2:Tok) (hv:rv[j]? = some v),∃z t3,v = .int z t3:=λv t2 hv=>by
  refine aB (IntsAre.int_at h7 j v hv) λt3 e=>?_;exact⟨_,t3,e⟩
 have El:∀{Q:Value->St->Prop},(∀t,Q (.int rv.length t) ⟨S.k,S.b,S.u,S.l,S.h,S.v,S.p,m1⟩)->V B A' ⟨S.k,S.b,S.u,S.l,S.h,S.v,S.p,m1⟩ (call (.builtin "len") [.ref ra]) Q:=λhq=>by
  rcases h9 with h9 | ⟨n,h9⟩
  ·exact zI (gk h9) (tu (Ks h8 (by decide))) hq
  ·exact zbn h9 (tu (Ks h8 (by decide))) hq
 refine ao (El λt2=>?_);w_fin;refine ao (xa ?_);refine zc ?_;by_cases aC:j<rv.length
 ·have' cc:decide (((j:Nat):Int)<((rv.length:Nat):Int))=true:=decide_eq_true (TP hj aC);refine z7 cc ?_;refine Ja (pick _ t2 (Ka aC)) λz t3 hz=>?_;have aS:rv[j]? = some (.int z t3):=by refine ae (Ka aC) ?_;refine ae hz ?_;rfl
  w_fin;refine ao (jG (k:=("at":Str)) (by w_left) D1 (sk _ _) e2 ?_);have subs:∀{value slice:Expr} {t} {Q:Value->St->Prop},Q (.int z t3) ⟨S.k,S.b,S.u,S.l,S.h,S.v,S.p,m1⟩->(subscripted slice false (.ref ra) (.int (j:Nat) t)=operate [.ref ra,.int (j:Nat) t] (getItem (.ref ra) (.int (j:Nat) t)))->V B A' ⟨S.k,S.b,S.u,S.l,S.h,S.v,S.p,m1⟩ (subscriptTail value slice (.ref ra) (.int (j:Nat) t)) Q:=λhq hs=>by
   rcases h9 with h9 | ⟨n,h9⟩
   ·exact zm (gk h9) aS hq (bla aC h8) hs
   ·exact zbo h9 aS hq (bla aC h8) hs
  refine ao (subs ?_ (by with_unfolding_all rfl));w_fin;exact Zp (fin2 z t3) λZZ ZZ ZZ h=>by w_means;exact h
 ·have' cc:decide (((j:Nat):Int)<((rv.length:Nat):Int))=false:=decide_eq_false (TQ hj aC);refine jf cc ?_;w_fin;refine ao (jG (k:=("at":Str)) (by w_left) D1 (sk _ _) e2 ?_);w_fin;refine ao (Xc (IntMulOk.of_left (by decide +kernel)) λt3=>?_);w_fin;refine ao (jG (k:=("at":Str)) (by w_left) D1 (sk _ _) e2 ?_);w_fin;refine ao (J3 (by decide) (zko _) λt4=>?_);w_fin;refine ao (yO λt5=>?_);w_fin;exact Zp (fin2 _ t5) λZZ ZZ ZZ h=>by w_means;exact h
end
section
set_option genSizeOf false
set_option genInjectivity false
variable {B:Bs} {A:Around} {S:St}
variable {L:HL} {nds:List Nd} {ps:List (Nat × Nat)} {par:List Nat} {aj:List (List Nat)} {kn:List (Nd × Nat)} {us:Nat->List Nat} {wt:List Nat} {ne:Nat}
theorem qb.at{lo:Addr}(h:qb B k m lo)(e:m' lo=m lo):qb B k m' lo :=
 by obtain⟨es,kvs,ra,i,t,h1,h2,h3,h4,h5,h6,h7⟩:=h.ex;exact⟨es,kvs,ra,i,t,e.trans h1,h2,h3,h4,h5,h6,h7⟩
theorem opf:xt ("f":Str):=⟨102,by decide,by decide⟩
theorem opg:xt ("g":Str):=⟨103,by decide,by decide⟩
theorem Gx{lo no:Addr}{as:List Addr}(R:zC 7 A)(Lo:qb B S.k S.m lo)(UR:HR B L S.k S.b S.u S.l S.h S.v nds par aj kn us [] ne)(H:HI nds ps par aj kn us [])(hn:ne<9000)(bY:nds.length<12)(h0:0<nds.length)(aH:S.m no=some (.list (as.map .ref)))(hN:jl S.k as nds)(h:∀k' b' u' l' h' v' m' par' aX dZ cw BK bW,S.k.le k'->(bW=nds\/∃z,bW=nds++[z])->HR B L k' b' u' l' h' v' bW par' aX dZ cw [] (ne+1)->HI bW ps par' aX dZ cw []->qb B k' m' lo->m' no=some (.list (BK.map .ref))->jl k' BK bW->(∀a,a≠lo->a≠no->m' a=S.m a)->
   Q .none ⟨k',b',u',l',h',v',S.p,m'⟩):V B A S (call (.ref 510) [.ref lo,.ref L.h,.ref no]) Q:=by
 refine zL (f:=510) (binds:=[("lot",.ref lo),("heap",.ref L.h),("nodes",.ref no)]) (n:=6) (by delta Bs.K;k_is) (by kernel_rfl) R rfl (by rfl) (by kernel_rfl) ?_;intro A' env R' en;dsimp only at en;have' hlen:_:=H.3;have nf:no≠lo:=λe=>by
  obtain⟨es,kvs,ra,i,t,h1,_⟩:=Lo.ex;subst e;rw[h1]at aH;injection aH with zz1;injection zz1
 w_fin;refine zN ?_;w_fin;rename_i tf tg;refine ze (Kq _ _) λc0 k0 bU fU ZZ=>?_;o_reads;w_fin;o_unpack jq;refine ao (qR (many:=2) (R'.less (by decide)) (Lo.mono bU) (by decide) λx tx es hx L1=>?_);dsimp only at L1 |-;have oA:=(zb S.m (.dict es) nf).trans aH;have sh:∀a,a≠lo->upd S.m lo (.dict es) a=S.m a:=λa ha=>zb _ _ ha;generalize upd S.m lo (.dict es)=m1 at L1 oA sh |-;w_fin;obtain⟨o,Em,da,fF⟩:∃(o:Str) (Em:Tok),([Value.str ("f":Str) tf,.str ("g":Str) tg]:List Value)[x]? = some (.str o Em)/\(o=("f":Str)\/o=("g":Str)):=by
  rcases(show x=0\/x=1 by exact IB hx) with rfl | rfl
  ·exact⟨_,_,rfl,.inl rfl⟩
  ·exact⟨_,_,rfl,.inr rfl⟩
 have' sj:xt o:=by
  rcases fF with rfl | rfl
  ·exact opf
  ·exact opg
 refine ao (qq (by w_left) da ?_ (bla hx (by decide)));w_fin;refine zN ?_;w_fin;refine ze (Kv _) λc1 k1 aU lC ZZ=>?_;dsimp only[St.put,St.to,St.get]at aU lC |-;have cX:=Mp.le_trans bU aU;have MU:=UR.mono cX;have' u1:_:=MU.3;refine aB MU.4 λta u2=>?_;w_fin;o_unpack xp
 let Inv1:(Addr × Nat × Tok × Tok × Tok)->Nat->St->List Value->Prop:=λj i S' l=>j.2.1<=2/\(E2 λk4 m4=>A7 (S'=⟨k4,S.b,S.u,S.l,S.h,S.v,S.p,m4⟩) (k1.le k4) (k4 j.1=some (.is (yb (min j.2.1 2) j.2.2.1 j.2.2.2.1 j.2.2.2.2))) (qb B k4 m4 lo) (m4 no=some (.list (as.map .ref))) (∀a,a≠lo->m4 a=S.m a) (∃ns:List Nat,A3 (IntsAre l (ns.map Int.ofNat)) (ns.length=i) (∀z∈ns,z<nds.length)))
 refine zG .k (λj:Addr × Nat × Tok × Tok × Tok=>(ja B j.1 (min j.2.1 2) j.2.2.1 j.2.2.2.1 j.2.2.2.2 (q6 rfl)).src) [("lot",.ref lo),("nodes",.ref no)]
  Inv1 en (by kernel_rfl) ⟨by decide,rfl,by decide,rfl,trivial⟩ R'.3 (λj=>by refine(?_:min j.2.1 2<=_);exact q6 rfl) (zY (λj:Addr × Nat × Tok × Tok × Tok=>ja B j.1 (min j.2.1 2) j.2.2.1 j.2.2.2.1 j.2.2.2.2 (q6 rfl)) ?_) (λj env2 bq=>zr _ bq (by rfl) (.inr (by rfl))) ?_ ?_ ?_ ?_
 ·w_fin;o_unpack qP;refine wu ?_;w_fin;refine ao (G9 ?_);refine zc ?_;cases hb:(o == ("f":Str)) with
  | true =>
   refine z7 rfl ?_;w_fin;refine ao (ql (n:=1) λa k' u v cu hk aH=>?_);exact⟨(a,1,u,_,v),rfl,gk hk,rfl,(show(1:Nat)<=2 by decide),k',m1,rfl,cu,hk,(L1.mono aU).mono cu,oA,sh,[],.nil,rfl,(λ_ h=>absurd h Lr)⟩
  | false =>
   refine jf rfl ?_;w_fin;refine ao (ql (n:=2) λa k' u v cu hk aH=>?_);exact⟨(a,2,u,_,v),rfl,gk hk,rfl,(show(2:Nat)<=2 by decide),k',m1,rfl,cu,hk,(L1.mono aU).mono cu,oA,sh,[],.nil,rfl,(λ_ h=>absurd h Lr)⟩
 ·rintro j i S' l ⟨_,k4,m4,rfl,aG,bz,_⟩;exact gk bz
 ·intro j i S' vs' bg bZ;refine zJ bZ λbo v ZZ bG=>?_;obtain rfl:=bo;obtain rfl:=bG;exact Vs.Sub.set rfl
 ·rintro j env2 bq i S' l vs' bg aQ ⟨hj,k4,m4,rfl,aG,bz,L4,bC,kA,ns,iT,kB,Eo⟩ fS;refine zJ fS λcj v hv eB=>?_;obtain rfl:=cj;obtain rfl:=eB;dsimp only[jA,zi];refine z7 rfl ?_;w_fin;o_unpack jq;o_unpack yo;refine ao (zI (by w_left) (by rewrite [List.length_map];refine ae hN.1 ?_;exact bla bY (by decide)) λt3=>?_);rewrite [List.length_map];refine ae hN.1 ?_;refine ao (qR (many:=nds.length) (R'.less (by decide)) L4 h0 λy ty eu hy L5=>?_);refine⟨Vs.Sub.refl _,hj,k4,_,rfl,aG,bz,L5,(zb _ _ nf).trans bC,λa ha=>(zb _ _ ha).trans (kA a ha),ns++[y],gg iT,ae Ki (ae Kj (ae kB rfl)),λz hz=>?_⟩;rcases Ko.mp hz with hz | hz
  ·exact Eo z hz
  ·exact ae (Kf.mp hz) hy
 ·rintro j S' l D ⟨hj,k4,m4,rfl,aG,bz,L4,bC,kA,ns,iT,kB,Eo⟩ di;have h2:ns.length<=2:=by
   have' this:(ja B j.1 (min j.2.1 2) j.2.2.1 j.2.2.2.1 j.2.2.2.2 (q6 rfl)).src.n=min j.2.1 2:=rfl;exact ae kB (ae this (TR hj))
  have' cm:k4 D=none:=di .k;have ll:=iT.length;rw[List.length_map]at ll;o_reads;have aP:k4.le (upd k4 D (.list l)):=Mp.av cm;have' hD:_:=za k4 D (.list l);generalize upd k4 D (.list l)=k5 at aP hD |-;w_fin;refine ao (yh (r:=.k) (gk hD) (z9 ll h2 rfl) λc6 dV=>?_);have' cE:k5 c6=none:=dV .k;o_reads;have aZ:k5.le (upd k5 c6 (.tup l)):=Mp.av cE;have' kL:_:=za k5 c6 (.tup l);generalize upd k5 c6 (.tup l)=k6 at aZ kL |-;w_fin;have oB:=Mp.le_trans aG (Mp.le_trans aP aZ);refine ao (y9 (oB _ _ lC) kL (Kv _) (z9 ll h2 rfl) λc7 k7 bO oa=>?_);dsimp only[St.put,St.to,St.get]at bO oa |-;have' ng:_:=Mp.le_trans oB bO;have kS:=Mp.le_trans cX ng;have' UR7:_:=UR.mono kS;have' v1:_:=UR7.3;have L7:=(L4.mono (Mp.le_trans aP aZ)).mono bO;have bB:jH k7 c7 o (ns.map Int.ofNat):=⟨_,oa,Em,l,rfl,iT⟩;w_fin;refine ao (YW (by w_left) (by w_left) (by rfl) ?_);refine yE (zld _) ?_;refine qz ?_;refine Zq en (by rfl) (by rfl) ?_;refine qz ?_;refine yl (by decide) ?_;w_fin;refine⟨c7,_,rfl,gk oa,(Kv _),by simp;exact z9 ll h2 rfl,λc8 k8 ey lE ZZ=>?_⟩;dsimp only[St.put,St.to,St.get]at ey lE |-;have' Ep:k8 c8=some (.tup l):=lE;have sq:=Mp.le_trans kS ey;have' UR8:_:=UR.mono sq;refine ao (Xp (R'.less (jZ rfl)) UR8 H hn sj Ep iT h2 Eo bY (λi t k9 hi cL=>?_) (λdS t k9 b9 u9 l9 h9 v9 sr nh Er nM cL Es H9=>?_))
  ·dsimp only[St.put,St.to,St.get]at cL |-;have kT:=Mp.le_trans ey cL;have hY:=Mp.le_trans sq cL;w_fin;refine ao (gY (nd:=(o,ns)) (by have' this:_:=R'.2;refine(?_:_<9900);exact Iq this) (by w_left) (hN.mono hY) (jH.mono bB kT) ?_);refine zc ?_;have' hm:(o,ns)∈nds:=Kx hi;refine ae (decide_eq_false (by simpa using hm)) ?_;refine jf rfl ?_;w_fin;exact⟨_,St.le_refl _,h k9 _ _ _ _ _ m4 par aj kn us as nds hY (.inl rfl) ((UR.mono hY).more (Lq _) (Zl hn rfl)) H (L7.mono kT) bC (hN.mono hY) λa ha ZZ=>kA a ha⟩
  ·dsimp only[St.put,St.to,St.get]at cL |-;have kT:=Mp.le_trans ey cL;have hY:=Mp.le_trans sq cL;w_fin;refine ao (gY (nd:=(o,ns)) (by have' this:_:=R'.2;refine(?_:_<9900);exact Iq this) (by w_left) (hN.mono hY) (jH.mono bB kT) ?_);refine zc ?_;refine ae (decide_eq_true dS) ?_;refine z7 rfl ?_;w_fin;o_unpack jS;have' lal:_:=hN.1;refine ao (jR (r:=.m) bC (by rw[List.length_map];exact HJ lal bY rfl) ?_);o_reads;w_fin;refine⟨_,St.le_refl _,h k9 b9 u9 l9 h9 v9 _ sr nh Er nM (as++[c7]) _ hY (.inr ⟨_,rfl⟩) Es H9 ((L7.mono kT).at (zb _ _ (Ne.symm nf))) ?_ ((hN.mono hY).snoc (nd:=(o,ns)) (jH.mono bB kT)) λa ha hb=>(zb _ _ hb).trans (kA a ha)⟩;exact ae K2 (za _ _ _)
end
section
set_option genSizeOf false
set_option genInjectivity false
section
variable {B:Bs} {A:Around} {S:St}
theorem St.oC{r:Rg}{a b:Addr}{c:jn}(h:S.no a)(n:a≠b):(S.put r b c).no a:=λr'=>by
 cases e:(S.put r b c).get r' a with
 | none=>rfl
 | some c' =>
  rcases St.bQ e with ⟨_,e1,_⟩ | e1
  ·exact absurd e1 n
  ·rw[h r']at e1;injection e1
theorem tcw(C:Addr)(rest:List Value):(Code.builtin "type.__call__" ⟨.ref C::rest,[]⟩).weight=1/\(Code.builtin "type.__call__" ⟨.ref C::rest,[]⟩).cUnits<=30:=by
 constructor
 ·kernel_rfl
 ·have' this:(Code.builtin "type.__call__" ⟨.ref C::rest,[]⟩).cUnits=1:=by kernel_rfl
  exact TS this
theorem zC.nj(R:zC (n+1) A)(C:Addr)(rest:List Value):zC n (A.under (.builtin "type.__call__" ⟨.ref C::rest,[]⟩)):=by
 refine bE (tcw C rest) λh1 h2=>?_;have' h3:_:=R.1;have' h4:_:=R.2;exact⟨by refine(?_:A.depth+(Code.builtin "type.__call__" ⟨.ref C::rest,[]⟩).weight+3*n<=900);exact TU h3 h1,by refine(?_:A.units+(Code.builtin "type.__call__" ⟨.ref C::rest,[]⟩).cUnits+30*n<=3000);exact TV h4 h2,R.3⟩
theorem Ok.kC(o:Ok B S X s)(C:Addr)(r:Rg):S.no s.heap.objs.size/\S.no (s.heap.objs.size+1)/\Ok B ((S.put r s.heap.objs.size (.attrs [])).put .k (s.heap.objs.size+1) (.is (zd C s.heap.objs.size))) X { s with heap:=(s.heap.push emptyDict).push (instObj C s.heap.objs.size) }:=by
 have b0:=o.above (Kz s.heap.objs.size);have b1:=o.above (Lq s.heap.objs.size);have o1:Ok B (S.put r s.heap.objs.size (.attrs [])) X { s with heap:=s.heap.push emptyDict } :=
  o.new (r:=r) (c':=.attrs []) b0.1 ⟨b0.2,(o.lt).2.2⟩ (λb ob q ZZ=>Ke _ q) ⟨emptyDict,Kl _ rfl,[],0,rfl,trivial⟩ _ rfl rfl rfl
 have' n1:(S.put r s.heap.objs.size (.attrs [])).no (s.heap.objs.size+1):=St.oC b1.1 (Mn _);have e1:(s.heap.push emptyDict).objs.size=s.heap.objs.size+1:=Vu ..;refine⟨b0.1,b1.1,o1.new (r:=.k) (c':=.is (zd C s.heap.objs.size)) n1 ⟨b1.2,?_⟩ (λb ob q ZZ=>Ke _ q) ⟨instObj C s.heap.objs.size,?_,rfl,rfl⟩ _ rfl rfl rfl⟩
 ·have' this:_:=o1.lt.2.2;dsimp only at this;rw[e1]at this;exact this
 ·have' this:_:=Kl (s.heap.push emptyDict) (o:=instObj C s.heap.objs.size) rfl
  rwa [e1]at this
theorem BM{C fI:Addr}{oc:Value}{od:Option Addr}{fd:FuncData}{cR:Array (Option Value)}{body:List Stmt}{rest:List Value}{binds:Addr->List (Str × Value)}{n:Nat}{Q:Value->St->Prop}(r:Rg)(hm:makesIn B.K C=true)(hi:findIn B.K (.ref C) "__init__"=some (some (.ref fI)))(hf:typeIn B.K (.ref fI)=some (.type "function"))(hK:B.K.lookup fI=some ⟨oc,od,.func fd,cR⟩)(pT:codeIn B.K fd.code fd.qualname=true)(bN:zC (n+2) A)(dK:fd.body = .stmts body)(dM:∀x:Addr,bindArgs fd ⟨.ref x::rest,[]⟩=pure (binds x))(cx:∀x,Bk fd (binds x)=true)(h:∀x d A' env,S.no x->S.no d->x≠d->zC n A'->En env fd.scope->W B A' true env (binds x) ((S.put r d (.attrs [])).put .k x (.is (zd C d))) (execs body env) (λfl ZZ S'=>(match fl with | .ret v=>v | _=>.none) = .none/\∃bg,bg.le S'/\Q (.ref x) bg)):V B A S (call (.ref C) ([]++rest)) Q:=λX s o=>by
 refine JR (o.kC C r) λn0 n1 o1=>?_;refine wpAny_call ?_;obtain⟨hh,g,d,t,os⟩:=s;refine make_core (makes_of o.fE hm) (looks_findIn o.fE hi) (λself=>bind_fn o.fE self hf) (.inl rfl) ?_;refine IQ (Q:=λv S'=>v = .none/\Q (.ref (hh.objs.size+1)) S') o1 (λv s' S' o' q=>?_) hK pT (bN.nj C rest) dK (dM _) (cx _) λA' env R' en=>?_
 ·obtain⟨rfl,q⟩:=q;exact⟨rfl,S',o',q⟩
 ·refine Zp (h _ _ A' env n1 n0 (Mn _) R' en) λfl vs' S' q=>?_;refine GB q λq1 bg q2 q3=>?_;exact⟨bg,q2,q1,q3⟩
theorem zll(r:Rg)(hm:makesIn B.K C=true)(hi:findIn B.K (.ref C) "__init__"=some (some (.builtin "object.__init__")))(h:∀x d,S.no x->S.no d->x≠d->Q (.ref x) ((S.put r d (.attrs [])).put .k x (.is (zd C d)))):V B A S (call (.ref C) ([]++[])) Q:=λX s o=>by
 refine JR (o.kC C r) λn0 n1 o1=>?_;refine wpAny_call ?_;obtain⟨hh,g,d,t,os⟩:=s;refine(?_:codeAny _ _ (.call (.ref C) ⟨[],[]⟩) _ _);have Y:=makes_of (M:=model B.prog B.w) o.fE hm;refine make_core Y (looks_findIn o.fE hi) (λself=>Looks.of_pure (oi_bind self)) (.inr ⟨rfl,rfl⟩) ?_;have' hx:((hh.push emptyDict).push (instObj C hh.objs.size)).get? (hh.objs.size+1)=some (instObj C hh.objs.size):=by heap_get
 have' t1:Looks (model B.prog B.w) ((hh.push emptyDict).push (instObj C hh.objs.size)) (typeOf (.ref (hh.objs.size+1))) (.ref C):=(Looks.ld hx).andThen .now;have' t2:Looks (model B.prog B.w) ((hh.push emptyDict).push (instObj C hh.objs.size)) (isInstance (.ref (hh.objs.size+1)) (.type "object")) true:=t1.andThen (Y.top.keeps λb o e=>Ke _ (Ke _ e));refine codeAny_call_builtin oi_plain entry_oi (@check_slot (model B.prog B.w) _ _ _ "object.__init__" "object" "__init__" (.ref (hh.objs.size+1)) [] [] _ oi_kind oi_split t2 (oi_args (.ref (hh.objs.size+1))) ?_);rw[oi_run];exact wpAny_pure (And.intro rfl ⟨_,o1,h _ _ n1 n0 (Mn _)⟩)
end
end
section
set_option genSizeOf false
set_option genInjectivity false
theorem zlm(P:Params):makesIn (hd.heap_1_39 P) 266=true:=by kernel_rfl
theorem zln(P:Params):makesIn (hd.heap_1_39 P) 348=true:=by kernel_rfl
theorem zlo(P:Params):makesIn (hd.heap_1_39 P) 478=true:=by kernel_rfl
theorem zlp(P:Params):makesIn (hd.heap_1_39 P) 109=true:=by kernel_rfl
theorem zlP(P:Params):makesIn (hd.heap_1_39 P) 45=true:=by kernel_rfl
theorem zlq(P:Params):findIn (hd.heap_1_39 P) (.ref 266) "__init__"=some (some (.ref 178)):=by kernel_rfl
theorem zlr(P:Params):findIn (hd.heap_1_39 P) (.ref 348) "__init__"=some (some (.ref 284)):=by kernel_rfl
theorem zls(P:Params):findIn (hd.heap_1_39 P) (.ref 478) "__init__"=some (some (.ref 366)):=by kernel_rfl
theorem zlt(P:Params):findIn (hd.heap_1_39 P) (.ref 109) "__init__"=some (some (.ref 63)):=by kernel_rfl
theorem zlQ(P:Params):findIn (hd.heap_1_39 P) (.ref 45) "__init__"=some (some (.builtin "object.__init__")):=by kernel_rfl
theorem zlu(P:Params):typeIn (hd.heap_1_39 P) (.ref 178)=some (.type "function"):=by kernel_rfl
theorem zlv(P:Params):typeIn (hd.heap_1_39 P) (.ref 284)=some (.type "function"):=by kernel_rfl
theorem zlw(P:Params):typeIn (hd.heap_1_39 P) (.ref 366)=some (.type "function"):=by kernel_rfl
theorem zlR(P:Params):typeIn (hd.heap_1_39 P) (.ref 63)=some (.type "function"):=by kernel_rfl
variable {B:Bs} {A:Around} {S:St}
theorem zeB(R:zC 3 A)(h:∀L k' b',S.k.le k'->BR B L k' b' []->Q (.ref L.b) ⟨k',b',S.u,S.l,S.h,S.v,S.p,S.m⟩):V B A S (call (.ref 266) ([]++[])) Q:=by
 refine BM (fI:=178) (binds:=λx=>[("self",.ref x)]) (n:=1) .b (zlm _) (zlq _) (zlu _) (by delta Bs.K;k_is) (by kernel_rfl) R rfl (λx=>by rfl) (λx=>by kernel_rfl) ?_;intro x d A' env su bB Et R' en;dsimp only at en;have' dg:S.k x=none:=su .k;have' lg:S.b d=none:=bB .b;o_reads;have' bU:S.k.le (upd S.k x (.is (zd 266 d))):=Mp.av dg;have c1:=za S.k x (.is (zd 266 d));revert bU;revert c1;refine gen (upd S.k x (.is (zd 266 d))) λk0=>?_;intro c1 bU;have c2:=za S.b d (.attrs []);revert c2;refine gen (upd S.b d (.attrs [])) λb0=>?_;intro c2;w_fin;refine zj ?_;refine jM ?_;w_fin;refine jr .b (Kt _) λa1 h1=>?_;have' lA:b0 a1=none:=h1 .b;o_reads;have n1:=zD c2 lA;have' d2:_:=(zb b0 (.list []) n1).trans c2;have' e1:_:=za b0 a1 (.list []);revert d2;revert e1;refine gen (upd b0 a1 (.list [])) λb1=>?_;intro e1 d2;clear c2;w_fin;refine ao (Gh (r:=.b) (by w_left) d2 ?_ (Kt _));dsimp only[St.put,St.to,St.get,zi];have c2:=za b1 d (.attrs [("nodes",.ref a1)]);have f1:=(zb b1 (.attrs [("nodes",.ref a1)]) (Ne.symm n1)).trans e1;revert c2;revert f1;refine gen (upd b1 d (.attrs [("nodes",.ref a1)])) λb2=>?_;intro f1 c2;clear d2 e1;w_fin;refine zj ?_;refine yD (r:=.b) λa2 h2=>?_;have eA:b2 a2=none:=h2 .b;o_reads;have n2:=zD c2 eA;have' BO:_:=zD f1 eA;have' d2:_:=(zb b2 (.dict []) n2).trans c2;have' g1:_:=(zb b2 (.dict []) BO).trans f1;have' g2:_:=za b2 a2 (.dict []);revert d2;revert g1;revert g2;refine gen (upd b2 a2 (.dict [])) λb3=>?_;intro g2 g1 d2;clear c2 f1;w_fin;refine ao (YQ (r:=.b) (by w_left) d2 ?_ (Kv _));o_reads;refine ae (show zi ([("nodes",.ref a1)]:Vs) "numbers" (.ref a2)=([("nodes",.ref a1),("numbers",.ref a2)]:Vs) from rfl) ?_;have c2:=za b3 d (.attrs [("nodes",.ref a1),("numbers",.ref a2)]);have f1:=(zb b3 (.attrs [("nodes",.ref a1),("numbers",.ref a2)]) (Ne.symm n1)).trans g1;have f2:=(zb b3 (.attrs [("nodes",.ref a1),("numbers",.ref a2)]) (Ne.symm n2)).trans g2;revert c2;revert f1;revert f2;refine gen (upd b3 d (.attrs [("nodes",.ref a1),("numbers",.ref a2)])) λb4=>?_;intro f2 f1 c2;clear d2 g1 g2;w_fin;refine zj ?_;refine jM ?_;w_fin;refine jr .b (Kt _) λa3 h3=>?_;have nk:b4 a3=none:=h3 .b;o_reads;have n3:=zD c2 nk;have vU:=zD f1 nk;have' BP:_:=zD f2 nk;have' d2:_:=(zb b4 (.list []) n3).trans c2;have' g1:_:=(zb b4 (.list []) vU).trans f1;have' g2:_:=(zb b4 (.list []) BP).trans f2;have' g3:_:=za b4 a3 (.list []);revert d2;revert g1;revert g2;revert g3;refine gen (upd b4 a3 (.list [])) λb5=>?_;intro g3 g2 g1 d2;clear c2 f1 f2;w_fin;refine ao (YR (r:=.b) (by w_left) d2 ?_ (Kq _ _));o_reads;refine ae (show zi ([("nodes",.ref a1),("numbers",.ref a2)]:Vs) "weights" (.ref a3)=([("nodes",.ref a1),("numbers",.ref a2),("weights",.ref a3)]:Vs) from rfl) ?_;have c2:=za b5 d (.attrs [("nodes",.ref a1),("numbers",.ref a2),("weights",.ref a3)]);have f1:=(zb b5 (.attrs [("nodes",.ref a1),("numbers",.ref a2),("weights",.ref a3)]) (Ne.symm n1)).trans g1;have f2:=(zb b5 (.attrs [("nodes",.ref a1),("numbers",.ref a2),("weights",.ref a3)]) (Ne.symm n2)).trans g2;have f3:=(zb b5 (.attrs [("nodes",.ref a1),("numbers",.ref a2),("weights",.ref a3)]) (Ne.symm n3)).trans g3;revert c2;revert f1;revert f2;revert f3;refine gen (upd b5 d (.attrs [("nodes",.ref a1),("numbers",.ref a2),("weights",.ref a3)])) λb6=>?_;intro f3 f2 f1 c2;clear d2 g1 g2 g3;w_fin;refine zj ?_;refine jM ?_;w_fin;refine jr .b (Kt _) λa4 h4=>?_;have oD:b6 a4=none:=h4 .b;o_reads;have n4:=zD c2 oD;have MV:=zD f1 oD;have' n24:_:=zD f2 oD;have MX:=zD f3 oD;have' d2:_:=(zb b6 (.list []) n4).trans c2;have' g1:_:=(zb b6 (.list []) MV).trans f1;have' g2:_:=(zb b6 (.list []) n24).trans f2;have' g3:_:=(zb b6 (.list []) MX).trans f3;have' g4:_:=za b6 a4 (.list []);revert d2;revert g1;revert g2;revert g3;revert g4;refine gen (upd b6 a4 (.list [])) λb7=>?_;intro g4 g3 g2 g1 d2;clear c2 f1 f2 f3;w_fin;refine ao (QQ (r:=.b) (by w_left) d2 ?_ (Kq _ _));o_reads;refine ae (show zi ([("nodes",.ref a1),("numbers",.ref a2),("weights",.ref a3)]:Vs) "depths" (.ref a4)=([("nodes",.ref a1),("numbers",.ref a2),("weights",.ref a3),("depths",.ref a4)]:Vs) from rfl) ?_;w_fin;refine⟨rfl,_,St.le_refl _,h ⟨x,d,a1,a2,a3,a4⟩ k0 _ bU ⟨c1,za _ _ _,⟨[],(zb _ _ (Ne.symm n1)).trans g1,rfl,λi a nd h=>by injection h⟩,⟨[],[],(zb _ _ (Ne.symm n2)).trans g2,j2.nil _ _,rfl,λi z h=>by injection h⟩,⟨[],[],(zb _ _ (Ne.symm n3)).trans g3,.nil,rfl⟩,⟨[],[],(zb _ _ (Ne.symm n4)).trans g4,.nil,rfl⟩,vU,MV,MX⟩⟩
theorem zbp(R:zC 3 A)(h:∀L k' u',S.k.le k'->UR L k' u' S.l [] []->Q (.ref L.u) ⟨k',S.b,u',S.l,S.h,S.v,S.p,S.m⟩):V B A S (call (.ref 348) ([]++[])) Q:=by
 refine BM (fI:=284) (binds:=λx=>[("self",.ref x)]) (n:=1) .u (zln _) (zlr _) (zlv _) (by delta Bs.K;k_is) (by kernel_rfl) R rfl (λx=>by rfl) (λx=>by kernel_rfl) ?_;intro x d A' env su bB Et R' en;dsimp only at en;have' dg:S.k x=none:=su .k;have' lg:S.u d=none:=bB .u;o_reads;have' bU:S.k.le (upd S.k x (.is (zd 348 d))):=Mp.av dg;have c1:=za S.k x (.is (zd 348 d));revert bU;revert c1;refine gen (upd S.k x (.is (zd 348 d))) λk0=>?_;intro c1 bU;have c2:=za S.u d (.attrs []);revert c2;refine gen (upd S.u d (.attrs [])) λb0=>?_;intro c2;w_fin;refine zj ?_;refine jM ?_;w_fin;refine jr .u (Kt _) λa1 h1=>?_;have' lA:b0 a1=none:=h1 .u;o_reads;have n1:=zD c2 lA;have' d2:_:=(zb b0 (.list []) n1).trans c2;have' e1:_:=za b0 a1 (.list []);revert d2;revert e1;refine gen (upd b0 a1 (.list [])) λb1=>?_;intro e1 d2;clear c2;w_fin;refine ao (YT (r:=.u) (by w_left) d2 ?_ (Kt _));dsimp only[St.put,St.to,St.get,zi];have c2:=za b1 d (.attrs [("above",.ref a1)]);have f1:=(zb b1 (.attrs [("above",.ref a1)]) (Ne.symm n1)).trans e1;revert c2;revert f1;refine gen (upd b1 d (.attrs [("above",.ref a1)])) λb2=>?_;intro f1 c2;clear d2 e1;w_fin;refine zj ?_;refine jM ?_;w_fin;refine jr .u (Kt _) λa2 h2=>?_;have eA:b2 a2=none:=h2 .u;o_reads;have n2:=zD c2 eA;have BO:=zD f1 eA;have' d2:_:=(zb b2 (.list []) n2).trans c2;have' g1:_:=(zb b2 (.list []) BO).trans f1;have' g2:_:=za b2 a2 (.list []);revert d2;revert g1;revert g2;refine gen (upd b2 a2 (.list [])) λb3=>?_;intro g2 g1 d2;clear c2 f1;w_fin;refine ao (QR (r:=.u) (by w_left) d2 ?_ (Kv _));o_reads;refine ae (show zi ([("above",.ref a1)]:Vs) "lots" (.ref a2)=([("above",.ref a1),("lots",.ref a2)]:Vs) from rfl) ?_;have c2:=za b3 d (.attrs [("above",.ref a1),("lots",.ref a2)]);have f1:=(zb b3 (.attrs [("above",.ref a1),("lots",.ref a2)]) (Ne.symm n1)).trans g1;have f2:=(zb b3 (.attrs [("above",.ref a1),("lots",.ref a2)]) (Ne.symm n2)).trans g2;revert c2;revert f1;revert f2;refine gen (upd b3 d (.attrs [("above",.ref a1),("lots",.ref a2)])) λb4=>?_;intro f2 f1 c2;clear d2 g1 g2;w_fin;refine zj ?_;refine jM ?_;w_fin;refine jr .u (Kt _) λa3 h3=>?_;have nk:b4 a3=none:=h3 .u;o_reads;have n3:=zD c2 nk;have vU:=zD f1 nk;have BP:=zD f2 nk;have' d2:_:=(zb b4 (.list []) n3).trans c2;have' g1:_:=(zb b4 (.list []) vU).trans f1;have' g2:_:=(zb b4 (.list []) BP).trans f2;have' g3:_:=za b4 a3 (.list []);revert d2;revert g1;revert g2;revert g3;refine gen (upd b4 a3 (.list [])) λb5=>?_;intro g3 g2 g1 d2;clear c2 f1 f2;w_fin;refine ao (JJ (r:=.u) (by w_left) d2 ?_ (Kq _ _));o_reads;refine ae (show zi ([("above",.ref a1),("lots",.ref a2)]:Vs) "merged" (.ref a3)=([("above",.ref a1),("lots",.ref a2),("merged",.ref a3)]:Vs) from rfl) ?_;w_fin;refine⟨rfl,_,St.le_refl _,h ⟨x,d,a1,a2,a3⟩ k0 _ bU ⟨c1,za _ _ _,⟨[],(zb _ _ (Ne.symm n1)).trans g1,.nil⟩,⟨[],(zb _ _ (Ne.symm n2)).trans g2,L3,rfl,λi a h=>by injection h⟩,⟨[],(zb _ _ (Ne.symm n3)).trans g3,rfl⟩,BO,vU,BP⟩⟩
end
section
set_option genSizeOf false
set_option genInjectivity false
variable {B:Bs} {A:Around} {S:St}
theorem zeC(R:zC 6 A)(h:∀L k' b' u' h',S.k.le k'->HR B L k' b' u' S.l h' S.v [] [] [] [] (λZZ=>[]) [] 0->Q (.ref L.h) ⟨k',b',u',S.l,h',S.v,S.p,S.m⟩):V B A S (call (.ref 478) ([]++[])) Q:=by
 refine BM (fI:=366) (binds:=λx=>[("self",.ref x)]) (n:=3) .h (zlo _) (zls _) (zlw _) (by delta Bs.K;k_is) (by kernel_rfl) (R.less (by decide)) rfl (λx=>by rfl) (λx=>by kernel_rfl) ?_;intro x d A' env su bB Et R' en;dsimp only at en;have' dg:S.k x=none:=su .k;have' lg:S.h d=none:=bB .h;o_reads;have' bU:S.k.le (upd S.k x (.is (zd 478 d))):=Mp.av dg;have' c1:_:=za S.k x (.is (zd 478 d));revert bU;revert c1;refine gen (upd S.k x (.is (zd 478 d))) λk0=>?_;intro c1 bU;have' c2:_:=za S.h d (.attrs []);revert c2;refine gen (upd S.h d (.attrs [])) λh0=>?_;intro c2;w_fin;refine zj ?_;w_fin;o_unpack zkh;refine ao (zeB R' λLB k1 b1 aU UB=>?_);dsimp only[St.put,St.to,St.get]at aU |-;have e1:=aU _ _ c1;w_fin;refine ao (G7 (r:=.h) (by w_left) c2 ?_ (Kt _));o_reads;refine ae (show zi ([]:Vs) "bank" (.ref LB.b)=([("bank",.ref LB.b)]:Vs) from rfl) ?_;have' q:_:=za h0 d (.attrs [("bank",.ref LB.b)]);revert q;refine gen (upd h0 d (.attrs [("bank",.ref LB.b)])) λh1=>?_;intro q;clear c2;have' c2:_:=q;clear q;w_fin;refine zj ?_;w_fin;o_unpack zcA;refine ao (zbp R' λLU k2 u2 bt UU=>?_);dsimp only[St.put,St.to,St.get]at bt UU |-;have e2:=bt _ _ e1;w_fin;refine ao (QT (r:=.h) (by w_left) c2 ?_ (Kv _));o_reads;refine ae (show zi ([("bank",.ref LB.b)]:Vs) "unions" (.ref LU.u)=([("bank",.ref LB.b),("unions",.ref LU.u)]:Vs) from rfl) ?_;have' q:_:=za h1 d (.attrs [("bank",.ref LB.b),("unions",.ref LU.u)]);revert q;refine gen (upd h1 d (.attrs [("bank",.ref LB.b),("unions",.ref LU.u)])) λh2=>?_;intro q;clear c2;have c2:=q;clear q;w_fin;refine zj ?_;refine jM ?_;w_fin;refine jr .h (Kt _) λa1 h1=>?_;have' lA:h2 a1=none:=h1 .h;o_reads;have n1:=zD c2 lA;have' d2:_:=(zb h2 (.list []) n1).trans c2;have' g1:_:=za h2 a1 (.list []);revert d2;revert g1;refine gen (upd h2 a1 (.list [])) λh3=>?_;intro g1 d2;clear c2;w_fin;refine ao (Gi (r:=.h) (by w_left) d2 ?_ (Kq _ _));o_reads;refine ae (show zi ([("bank",.ref LB.b),("unions",.ref LU.u)]:Vs) "edges" (.ref a1)=([("bank",.ref LB.b),("unions",.ref LU.u),("edges",.ref a1)]:Vs) from rfl) ?_;have c2:=za h3 d (.attrs [("bank",.ref LB.b),("unions",.ref LU.u),("edges",.ref a1)]);have f1:=(zb h3 (.attrs [("bank",.ref LB.b),("unions",.ref LU.u),("edges",.ref a1)]) (Ne.symm n1)).trans g1;revert c2;revert f1;refine gen (upd h3 d (.attrs [("bank",.ref LB.b),("unions",.ref LU.u),("edges",.ref a1)])) λh4=>?_;intro f1 c2;clear d2 g1;w_fin;refine zj ?_;refine jM ?_;w_fin;refine jr .h (Kt _) λa2 h2=>?_;have eA:h4 a2=none:=h2 .h;o_reads;have n2:=zD c2 eA;have oE:=zD f1 eA;have' d2:_:=(zb h4 (.list []) n2).trans c2;have' g1:_:=(zb h4 (.list []) oE).trans f1;have' g2:_:=za h4 a2 (.list []);revert d2;revert g1;revert g2;refine gen (upd h4 a2 (.list [])) λh5=>?_;intro g2 g1 d2;clear c2 f1;w_fin;refine ao (QV (r:=.h) (by w_left) d2 ?_ (Kq _ _));o_reads;refine ae (show zi ([("bank",.ref LB.b),("unions",.ref LU.u),("edges",.ref a1)]:Vs) "forest" (.ref a2)=([("bank",.ref LB.b),("unions",.ref LU.u),("edges",.ref a1),("forest",.ref a2)]:Vs) from rfl) ?_;have c2:=za h5 d (.attrs [("bank",.ref LB.b),("unions",.ref LU.u),("edges",.ref a1),("forest",.ref a2)]);have f1:=(zb h5 (.attrs [("bank",.ref LB.b),("unions",.ref LU.u),("edges",.ref a1),("forest",.ref a2)]) (Ne.symm n1)).trans g1;have f2:=(zb h5 (.attrs [("bank",.ref LB.b),("unions",.ref LU.u),("edges",.ref a1),("forest",.ref a2)]) (Ne.symm n2)).trans g2;revert c2;revert f1;revert f2;refine gen (upd h5 d (.attrs [("bank",.ref LB.b),("unions",.ref LU.u),("edges",.ref a1),("forest",.ref a2)])) λh6=>?_;intro f2 f1 c2;clear d2 g1 g2;w_fin;refine zj ?_;refine yD (r:=.h) λa3 h3=>?_;have nk:h6 a3=none:=h3 .h;o_reads;have n3:=zD c2 nk;have' Eu:_:=zD f1 nk;have' Ew:_:=zD f2 nk;have' d2:_:=(zb h6 (.dict []) n3).trans c2;have' g1:_:=(zb h6 (.dict []) Eu).trans f1;have' g2:_:=(zb h6 (.dict []) Ew).trans f2;have' g3:_:=za h6 a3 (.dict []);revert d2;revert g1;revert g2;revert g3;refine gen (upd h6 a3 (.dict [])) λh7=>?_;intro g3 g2 g1 d2;clear c2 f1 f2;w_fin;refine ao (Gk (r:=.h) (by w_left) d2 ?_ (Kq _ _));o_reads;refine ae (show zi ([("bank",.ref LB.b),("unions",.ref LU.u),("edges",.ref a1),("forest",.ref a2)]:Vs) "known" (.ref a3)=([("bank",.ref LB.b),("unions",.ref LU.u),("edges",.ref a1),("forest",.ref a2),("known",.ref a3)]:Vs) from rfl) ?_;have c2:=za h7 d (.attrs [("bank",.ref LB.b),("unions",.ref LU.u),("edges",.ref a1),("forest",.ref a2),("known",.ref a3)]);have f1:=(zb h7 (.attrs [("bank",.ref LB.b),("unions",.ref LU.u),("edges",.ref a1),("forest",.ref a2),("known",.ref a3)]) (Ne.symm n1)).trans g1;have f2:=(zb h7 (.attrs [("bank",.ref LB.b),("unions",.ref LU.u),("edges",.ref a1),("forest",.ref a2),("known",.ref a3)]) (Ne.symm n2)).trans g2;have f3:=(zb h7 (.attrs [("bank",.ref LB.b),("unions",.ref LU.u),("edges",.ref a1),("forest",.ref a2),("known",.ref a3)]) (Ne.symm n3)).trans g3;revert c2;revert f1;revert f2;revert f3;refine gen (upd h7 d (.attrs [("bank",.ref LB.b),("unions",.ref LU.u),("edges",.ref a1),("forest",.ref a2),("known",.ref a3)])) λh8=>?_;intro f3 f2 f1 c2;clear d2 g1 g2 g3;w_fin;refine zj ?_;refine yD (r:=.h) λa4 h4=>?_;have oD:h8 a4=none:=h4 .h;o_reads;have n4:=zD c2 oD;have' Ex:_:=zD f1 oD;have' Ey:_:=zD f2 oD;have vV:=zD f3 oD;have' d2:_:=(zb h8 (.dict []) n4).trans c2;have' g1:_:=(zb h8 (.dict []) Ex).trans f1;have' g2:_:=(zb h8 (.dict []) Ey).trans f2;have' g3:_:=(zb h8 (.dict []) vV).trans f3;have' g4:_:=za h8 a4 (.dict []);revert d2;revert g1;revert g2;revert g3;revert g4;refine gen (upd h8 a4 (.dict [])) λh9=>?_;intro g4 g3 g2 g1 d2;clear c2 f1 f2 f3;w_fin;refine ao (Gl (r:=.h) (by w_left) d2 ?_ (Kq _ _));o_reads;refine ae (show zi ([("bank",.ref LB.b),("unions",.ref LU.u),("edges",.ref a1),("forest",.ref a2),("known",.ref a3)]:Vs) "above" (.ref a4)=([("bank",.ref LB.b),("unions",.ref LU.u),("edges",.ref a1),("forest",.ref a2),("known",.ref a3),("above",.ref a4)]:Vs) from rfl) ?_;have c2:=za h9 d (.attrs [("bank",.ref LB.b),("unions",.ref LU.u),("edges",.ref a1),("forest",.ref a2),("known",.ref a3),("above",.ref a4)]);have f1:=(zb h9 (.attrs [("bank",.ref LB.b),("unions",.ref LU.u),("edges",.ref a1),("forest",.ref a2),("known",.ref a3),("above",.ref a4)]) (Ne.symm n1)).trans g1;have f2:=(zb h9 (.attrs [("bank",.ref LB.b),("unions",.ref LU.u),("edges",.ref a1),("forest",.ref a2),("known",.ref a3),("above",.ref a4)]) (Ne.symm n2)).trans g2;have f3:=(zb h9 (.attrs [("bank",.ref LB.b),("unions",.ref LU.u),("edges",.ref a1),("forest",.ref a2),("known",.ref a3),("above",.ref a4)]) (Ne.symm n3)).trans g3;have f4:=(zb h9 (.attrs [("bank",.ref LB.b),("unions",.ref LU.u),("edges",.ref a1),("forest",.ref a2),("known",.ref a3),("above",.ref a4)]) (Ne.symm n4)).trans g4;revert c2;revert f1;revert f2;revert f3;revert f4;refine gen (upd h9 d (.attrs [("bank",.ref LB.b),("unions",.ref LU.u),("edges",.ref a1),("forest",.ref a2),("known",.ref a3),("above",.ref a4)])) λiq=>?_;intro f4 f3 f2 f1 c2;clear d2 g1 g2 g3 g4;w_fin;refine zj ?_;refine jM ?_;w_fin;refine jr .h (Kt _) λa5 h5=>?_;have vW:iq a5=none:=h5 .h;o_reads;have n5:=zD c2 vW;have vX:=zD f1 vW;have vY:=zD f2 vW;have' Ez:_:=zD f3 vW;have' EA:_:=zD f4 vW;have' d2:_:=(zb iq (.list []) n5).trans c2;have' g1:_:=(zb iq (.list []) vX).trans f1;have' g2:_:=(zb iq (.list []) vY).trans f2;have' g3:_:=(zb iq (.list []) Ez).trans f3;have' g4:_:=(zb iq (.list []) EA).trans f4;have' g5:_:=za iq a5 (.list []);revert d2;revert g1;revert g2;revert g3;revert g4;revert g5;refine gen (upd iq a5 (.list [])) λkH=>?_;intro g5 g4 g3 g2 g1 d2;clear c2 f1 f2 f3 f4;w_fin;refine ao (YV (r:=.h) (by w_left) d2 ?_ (Kq _ _));o_reads;refine ae (show zi ([("bank",.ref LB.b),("unions",.ref LU.u),("edges",.ref a1),("forest",.ref a2),("known",.ref a3),("above",.ref a4)]:Vs) "waiting" (.ref a5)=([("bank",.ref LB.b),("unions",.ref LU.u),("edges",.ref a1),("forest",.ref a2),("known",.ref a3),("above",.ref a4),("waiting",.ref a5)]:Vs) from rfl) ?_;have' c2:_:=za kH d (.attrs [("bank",.ref LB.b),("unions",.ref LU.u),("edges",.ref a1),("forest",.ref a2),("known",.ref a3),("above",.ref a4),("waiting",.ref a5)]);have' f1:_:=(zb kH (.attrs [("bank",.ref LB.b),("unions",.ref LU.u),("edges",.ref a1),("forest",.ref a2),("known",.ref a3),("above",.ref a4),("waiting",.ref a5)]) (Ne.symm n1)).trans g1;have' f2:_:=(zb kH (.attrs [("bank",.ref LB.b),("unions",.ref LU.u),("edges",.ref a1),("forest",.ref a2),("known",.ref a3),("above",.ref a4),("waiting",.ref a5)]) (Ne.symm n2)).trans g2;have' f3:_:=(zb kH (.attrs [("bank",.ref LB.b),("unions",.ref LU.u),("edges",.ref a1),("forest",.ref a2),("known",.ref a3),("above",.ref a4),("waiting",.ref a5)]) (Ne.symm n3)).trans g3;have' f4:_:=(zb kH (.attrs [("bank",.ref LB.b),("unions",.ref LU.u),("edges",.ref a1),("forest",.ref a2),("known",.ref a3),("above",.ref a4),("waiting",.ref a5)]) (Ne.symm n4)).trans g4;have' f5:_:=(zb kH (.attrs [("bank",.ref LB.b),("unions",.ref LU.u),("edges",.ref a1),("forest",.ref a2),("known",.ref a3),("above",.ref a4),("waiting",.ref a5)]) (Ne.symm n5)).trans g5;revert c2;revert f1;revert f2;revert f3;revert f4;revert f5;refine gen (upd kH d (.attrs [("bank",.ref LB.b),("unions",.ref LU.u),("edges",.ref a1),("forest",.ref a2),("known",.ref a3),("above",.ref a4),("waiting",.ref a5)])) λbY=>?_;intro f5 f4 f3 f2 f1 c2;clear d2 g1 g2 g3 g4 g5;w_fin;refine zj ?_;w_fin;rename_i tb;w_fin;refine ao (Gm (r:=.h) (by w_left) c2 ?_ (Kq _ _));o_reads;refine ae (show zi ([("bank",.ref LB.b),("unions",.ref LU.u),("edges",.ref a1),("forest",.ref a2),("known",.ref a3),("above",.ref a4),("waiting",.ref a5)]:Vs) "backs" (.int 0 tb)=([("bank",.ref LB.b),("unions",.ref LU.u),("edges",.ref a1),("forest",.ref a2),("known",.ref a3),("above",.ref a4),("waiting",.ref a5),("backs",.int 0 tb)]:Vs) from rfl) ?_;have' q:_:=za bY d (.attrs [("bank",.ref LB.b),("unions",.ref LU.u),("edges",.ref a1),("forest",.ref a2),("known",.ref a3),("above",.ref a4),("waiting",.ref a5),("backs",.int 0 tb)]);have' g1:_:=(zb bY (.attrs [("bank",.ref LB.b),("unions",.ref LU.u),("edges",.ref a1),("forest",.ref a2),("known",.ref a3),("above",.ref a4),("waiting",.ref a5),("backs",.int 0 tb)]) (Ne.symm n1)).trans f1;have' g2:_:=(zb bY (.attrs [("bank",.ref LB.b),("unions",.ref LU.u),("edges",.ref a1),("forest",.ref a2),("known",.ref a3),("above",.ref a4),("waiting",.ref a5),("backs",.int 0 tb)]) (Ne.symm n2)).trans f2;have' g3:_:=(zb bY (.attrs [("bank",.ref LB.b),("unions",.ref LU.u),("edges",.ref a1),("forest",.ref a2),("known",.ref a3),("above",.ref a4),("waiting",.ref a5),("backs",.int 0 tb)]) (Ne.symm n3)).trans f3;have' g4:_:=(zb bY (.attrs [("bank",.ref LB.b),("unions",.ref LU.u),("edges",.ref a1),("forest",.ref a2),("known",.ref a3),("above",.ref a4),("waiting",.ref a5),("backs",.int 0 tb)]) (Ne.symm n4)).trans f4;have' g5:_:=(zb bY (.attrs [("bank",.ref LB.b),("unions",.ref LU.u),("edges",.ref a1),("forest",.ref a2),("known",.ref a3),("above",.ref a4),("waiting",.ref a5),("backs",.int 0 tb)]) (Ne.symm n5)).trans f5;revert q;revert g1;revert g2;revert g3;revert g4;revert g5;refine gen (upd bY d (.attrs [("bank",.ref LB.b),("unions",.ref LU.u),("edges",.ref a1),("forest",.ref a2),("known",.ref a3),("above",.ref a4),("waiting",.ref a5),("backs",.int 0 tb)])) λBi=>?_;intro g5 g4 g3 g2 g1 q;clear c2 f1 f2 f3 f4 f5;have' c2:_:=q;clear q;have' f1:_:=g1;have' f2:_:=g2;have' f3:_:=g3;have' f4:_:=g4;have' f5:_:=g5;clear g1 g2 g3 g4 g5;w_fin;have' iR:_:=Mp.le_trans bU (Mp.le_trans aU bt);refine⟨rfl,_,St.le_refl _,h ⟨x,d,a1,a2,a3,a4,a5,LB,LU⟩ k2 b1 u2 _ iR ⟨UB.mono bt,UU,e2,⟨tb,c2⟩,⟨[],f1,by decide⟩,⟨[],f2,by decide⟩,⟨[],[],f3,j2.nil _ _,rfl,λi z e h=>by injection h⟩,⟨[],[],f4,DK.nil _,Kz _,⟨λc h1 h2=>absurd h2 (K4 _),λc c' a h ZZ=>(by injection h),λz w h=>(by injection h)⟩⟩,⟨[],f5,.nil⟩,⟨oE,vX,vY,vV⟩,Kt _⟩⟩
variable {L:HL} {nds:List Nd} {ps:List (Nat × Nat)} {par:List Nat} {aj:List (List Nat)} {kn:List (Nd × Nat)} {us:Nat->List Nat} {wt:List Nat} {ne:Nat}
theorem zbq{an ad lam mt:Addr}(R:zC 4 A)(U:HR B L S.k S.b S.u S.l S.h S.v nds par aj kn us wt ne)(BQ:S.k an=some (.is (zd 45 ad)))(vZ:S.p ad=some (.attrs [("of_node",.ref lam),("joined",.ref 491)]))(h:∀K k' p',S.k.le k'->K.lam=lam->K.mt=mt->KR B K L.h k' p' par.length (λZZ=>none)->Q (.ref K.kp) ⟨k',S.b,S.u,S.l,S.h,S.v,p',S.m⟩):V B A S (call (.ref 109) ([]++[.ref L.h,.ref an])) Q:=by
 refine BM (fI:=63) (binds:=λx=>[("self",.ref x),("heap",.ref L.h),("analysis",.ref an)]) (n:=2) .p (zlp _) (zlt _) (zlR _) (by delta Bs.K;k_is) (by kernel_rfl) (R.less (by decide)) rfl (λx=>by rfl) (λx=>by kernel_rfl) ?_;intro x d A' env su bB Et R' en;dsimp only at en;have' dg:S.k x=none:=su .k;have' lg:S.p d=none:=bB .p;refine aB U.4 λtb u2=>?_;o_reads;have bU:S.k.le (upd S.k x (.is (zd 109 d))):=Mp.av dg;have c1:=za S.k x (.is (zd 109 d));have' sx:_:=bU _ _ BQ;have' u1:_:=bU _ _ U.3;revert bU;revert c1;revert sx;revert u1;refine gen (upd S.k x (.is (zd 109 d))) λk0=>?_;intro u1 sx c1 bU;have' c2:_:=za S.p d (.attrs []);have tW:ad≠d:=zD vZ lg;have' keep:upd S.p d (.attrs []) ad=some (.attrs [("of_node",.ref lam),("joined",.ref 491)]):=(zb _ _ tW).trans vZ;revert c2;revert keep;refine gen (upd S.p d (.attrs [])) λp0=>?_;intro keep c2;w_fin;refine zj ?_;w_fin;refine ao (QO (r:=.p) (by w_left) c2 ?_ (Kt _));o_reads;refine ae (show zi ([]:Vs) "heap" (.ref L.h)=([("heap",.ref L.h)]:Vs) from rfl) ?_;have' q:_:=za p0 d (.attrs [("heap",.ref L.h)]);have' fk:_:=(zb p0 (.attrs [("heap",.ref L.h)]) tW).trans keep;revert q;revert fk;refine gen (upd p0 d (.attrs [("heap",.ref L.h)])) λp1=>?_;intro fk q;clear keep;have' keep:_:=fk;clear fk;clear c2;have' c2:_:=q;clear q;w_fin;refine zj ?_;w_fin;refine ao (wY (r:=.p) (by w_left) c2 ?_ (Kv _));o_reads;refine ae (show zi ([("heap",.ref L.h)]:Vs) "analysis" (.ref an)=([("heap",.ref L.h),("analysis",.ref an)]:Vs) from rfl) ?_;have' q:_:=za p1 d (.attrs [("heap",.ref L.h),("analysis",.ref an)]);have' fq:_:=(zb p1 (.attrs [("heap",.ref L.h),("analysis",.ref an)]) tW).trans keep;revert q;revert fq;refine gen (upd p1 d (.attrs [("heap",.ref L.h),("analysis",.ref an)])) λp2=>?_;intro fq q;clear keep;have keep:=fq;clear fq;clear c2;have c2:=q;clear q;w_fin;refine zj ?_;refine yD (r:=.p) λa1 h1=>?_;have lA:p2 a1=none:=h1 .p;o_reads;have n1:=zD c2 lA;have' d2:_:=(zb p2 (.dict []) n1).trans c2;have' g1:_:=za p2 a1 (.dict []);have' ft:_:=(zb p2 (.dict []) (zD keep lA)).trans keep;revert d2;revert g1;revert ft;refine gen (upd p2 a1 (.dict [])) λp3=>?_;intro ft g1 d2;clear keep;have' keep:_:=ft;clear ft;clear c2;w_fin;refine ao (xG (r:=.p) (by w_left) d2 ?_ (Kq _ _));o_reads;refine ae (show zi ([("heap",.ref L.h),("analysis",.ref an)]:Vs) "values" (.ref a1)=([("heap",.ref L.h),("analysis",.ref an),("values",.ref a1)]:Vs) from rfl) ?_;have c2:=za p3 d (.attrs [("heap",.ref L.h),("analysis",.ref an),("values",.ref a1)]);have f1:=(zb p3 (.attrs [("heap",.ref L.h),("analysis",.ref an),("values",.ref a1)]) (Ne.symm n1)).trans g1;have' fu:_:=(zb p3 (.attrs [("heap",.ref L.h),("analysis",.ref an),("values",.ref a1)]) tW).trans keep;revert c2;revert f1;revert fu;refine gen (upd p3 d (.attrs [("heap",.ref L.h),("analysis",.ref an),("values",.ref a1)])) λp4=>?_;intro fu f1 c2;clear keep;have keep:=fu;clear fu;clear d2 g1;w_fin;refine zj ?_;refine yD (r:=.p) λa2 h2=>?_;have eA:p4 a2=none:=h2 .p;o_reads;have n2:=zD c2 eA;have' oE:_:=zD f1 eA;have' d2:_:=(zb p4 (.dict []) n2).trans c2;have' g1:_:=(zb p4 (.dict []) oE).trans f1;have' g2:_:=za p4 a2 (.dict []);have' fw:_:=(zb p4 (.dict []) (zD keep eA)).trans keep;revert d2;revert g1;revert g2;revert fw;refine gen (upd p4 a2 (.dict [])) λp5=>?_;intro fw g2 g1 d2;clear keep;have' keep:_:=fw;clear fw;clear c2 f1;w_fin;refine ao (QP (r:=.p) (by w_left) d2 ?_ (Kq _ _));o_reads;refine ae (show zi ([("heap",.ref L.h),("analysis",.ref an),("values",.ref a1)]:Vs) "told" (.ref a2)=([("heap",.ref L.h),("analysis",.ref an),("values",.ref a1),("told",.ref a2)]:Vs) from rfl) ?_;have' c2:_:=za p5 d (.attrs [("heap",.ref L.h),("analysis",.ref an),("values",.ref a1),("told",.ref a2)]);have' f1:_:=(zb p5 (.attrs [("heap",.ref L.h),("analysis",.ref an),("values",.ref a1),("told",.ref a2)]) (Ne.symm n1)).trans g1;have' f2:_:=(zb p5 (.attrs [("heap",.ref L.h),("analysis",.ref an),("values",.ref a1),("told",.ref a2)]) (Ne.symm n2)).trans g2;have' fA:_:=(zb p5 (.attrs [("heap",.ref L.h),("analysis",.ref an),("values",.ref a1),("told",.ref a2)]) tW).trans keep;revert c2;revert f1;revert f2;revert fA;refine gen (upd p5 d (.attrs [("heap",.ref L.h),("analysis",.ref an),("values",.ref a1),("told",.ref a2)])) λp6=>?_;intro fA f2 f1 c2;clear keep;have' keep:_:=fA;clear fA;clear d2 g1 g2;w_fin;refine zj ?_;w_fin;o_unpack w6;w_fin;refine ao (YM (r:=.p) (by w_left) c2 ?_ (Kq _ _));o_reads;refine ae (show zi ([("heap",.ref L.h),("analysis",.ref an),("values",.ref a1),("told",.ref a2)]:Vs) "backs" (.int 0 tb)=([("heap",.ref L.h),("analysis",.ref an),("values",.ref a1),("told",.ref a2),("backs",.int 0 tb)]:Vs) from rfl) ?_;have' q:_:=za p6 d (.attrs [("heap",.ref L.h),("analysis",.ref an),("values",.ref a1),("told",.ref a2),("backs",.int 0 tb)]);have' g1:_:=(zb p6 (.attrs [("heap",.ref L.h),("analysis",.ref an),("values",.ref a1),("told",.ref a2),("backs",.int 0 tb)]) (Ne.symm n1)).trans f1;have' g2:_:=(zb p6 (.attrs [("heap",.ref L.h),("analysis",.ref an),("values",.ref a1),("told",.ref a2),("backs",.int 0 tb)]) (Ne.symm n2)).trans f2;have' fB:_:=(zb p6 (.attrs [("heap",.ref L.h),("analysis",.ref an),("values",.ref a1),("told",.ref a2),("backs",.int 0 tb)]) tW).trans keep;revert q;revert g1;revert g2;revert fB;refine gen (upd p6 d (.attrs [("heap",.ref L.h),("analysis",.ref an),("values",.ref a1),("told",.ref a2),("backs",.int 0 tb)])) λp7=>?_;intro fB g2 g1 q;clear keep;have' keep:_:=fB;clear fB;clear c2 f1 f2;have' c2:_:=q;clear q;have' f1:_:=g1;have' f2:_:=g2;clear g1 g2;w_fin;refine⟨rfl,_,St.le_refl _,h ⟨x,d,an,ad,a2,lam,mt⟩ k0 _ bU rfl rfl ⟨c1,⟨a1,tb,[],[],c2,f1,DK.nil _,z5.nil _ _⟩,sx,keep⟩⟩
end
section
set_option genSizeOf false
set_option genInjectivity false
variable {B:Bs} {A:Around} {S:St}
variable {L:HL} {nds:List Nd} {ps:List (Nat × Nat)} {par:List Nat} {aj:List (List Nat)} {kn:List (Nd × Nat)} {us:Nat->List Nat} {wt:List Nat} {ne:Nat}
theorem zcO(R:zC 6 A)(U:HR B L S.k S.b S.u S.l S.h S.v nds par aj kn us [] ne)(H:HI nds ps par aj kn us [])(hn:ne<9000)(hx:xt x)(hr:S.k tk=some (.tup [.str x t0]))(bY:nds.length<12)(dS:(x,[])∉nds)(eY:∀v k' b' u' l' h' v' par' aX dZ cw,S.k.le k'->HR B L k' b' u' l' h' v' (nds++[(x,[])]) par' aX dZ cw [] (ne+1)->HI (nds++[(x,[])]) ps par' aX dZ cw []->Q v ⟨k',b',u',l',h',v',S.p,S.m⟩):
  V B A S (call (.ref 388) [.ref L.h,.ref tk]) Q:=by
 refine zL (f:=388) (binds:=[("self",.ref L.h),("term",.ref tk)]) (n:=5) (by delta Bs.K;k_is) (by kernel_rfl) R rfl (by rfl) (by kernel_rfl) ?_;intro A' env R' en;dsimp only at en;have' u1:_:=U.3;refine aB U.4 λta u2=>?_;w_fin;o_unpack YW;refine ao (qq (k:=0) (v:=.str x t0) (by w_left) rfl ?_ (by decide));w_fin;o_unpack xp
 let Inv1:(Addr)->Nat->St->List Value->Prop:=λj i S' l=>∃k4,A4 (S'=⟨k4,S.b,S.u,S.l,S.h,S.v,S.p,S.m⟩) (S.k.le k4) (k4 j=some (.tup [])) (l=[])
 refine zG .k (λj:Addr=>(jp B j []).src) [("self",.ref L.h)]
  Inv1 en (by kernel_rfl) ⟨by decide,rfl,trivial⟩ R'.3 (λZZ=>by refine(?_:0<=_);exact HF) (zY (λj:Addr=>jp B j []) ?_) (λj env2 bq=>zr _ bq (by rfl) (.inr (by rfl))) ?_ ?_ ?_ ?_
 ·refine yl (by decide) ?_;w_fin;refine⟨tk,_,rfl,gk hr,(Kz _),(Kv _),λc3 k3 aV dA aH=>?_⟩;exact⟨c3,rfl,gk dA,rfl,k3,rfl,aV,dA,rfl⟩
 ·intro j i S' l bZ;refine q7 bZ λk4 bo aG bz hl=>?_;obtain rfl:=bo;exact gk bz
 ·intro j i S' vs' bg iC;refine zJ iC λcA v ZZ cj=>?_;obtain rfl:=cA;obtain rfl:=cj;exact Vs.Sub.set rfl
 ·rintro j env2 bq i S' l vs' bg aQ _ _;exact absurd (show i<0 from aQ) (K4 _)
 ·intro j S' l D eV;refine q7 eV λk4 dy aG bz iI=>?_;obtain rfl:=dy;obtain rfl:=iI;intro aH;have' bC:k4 D=none:=aH .k;o_reads;have' aP:k4.le (upd k4 D (.list [])):=Mp.av bC;have' hD:_:=za k4 D (.list []);generalize upd k4 D (.list [])=k5 at aP hD |-;w_fin;refine ao (yh (r:=.k) (gk hD) (Kt _) λc6 dV=>?_);have' cE:k5 c6=none:=dV .k;o_reads;have' aZ:k5.le (upd k5 c6 (.tup [])):=Mp.av cE;have' kL:_:=za k5 c6 (.tup []);generalize upd k5 c6 (.tup [])=k6 at aZ kL |-;have cP:=Mp.le_trans aG (Mp.le_trans aP aZ);w_fin;refine ao (Xp (ns:=[]) R' (U.mono cP) H hn hx kL .nil (Kt _) (λ_ h=>absurd h Lr) bY (λi t k9 hi cL=>absurd (Kx hi) dS) (λZZ t k9 b9 u9 l9 h9 v9 sr nh Er nM cL Es H9=>?_));dsimp only[St.put,St.to,St.get]at cL |-;w_means;exact⟨_,St.le_refl _,eY _ k9 b9 u9 l9 h9 v9 sr nh Er nM (Mp.le_trans cP cL) Es H9⟩
end
section
noncomputable def lf(ls:List Nat)(i:Nat):Nat:=ls.getD i 0
noncomputable def LI(nds:List Nd)(ps:List (Nat × Nat))(ls:List Nat):Prop:=And
 (ls.length=nds.length)
 (Rep nds ps (lf ls))
noncomputable def dC(ls:List Nat)(low high:Nat):List Nat:=ls.map λc=>if c=high then low else c
noncomputable def cnt(ls:List Nat):Nat:=(List.range ls.length).countP λi=>lf ls i == i
variable {nds:List Nd} {ps:List (Nat × Nat)} {ls:List Nat}
theorem xy(h:low<=high)(i:Nat):lf (dC ls low high) i=if lf ls i=high then low else lf ls i:=by
 unfold lf dC;by_cases hi:i<ls.length
 ·simp[List.getD_eq_getElem?_getD,hi]
 ·refine ae (gB _ _ (by simp;exact gZ hi)) ?_;refine ae (gB _ _ (gZ hi)) ?_;split <;> lia
theorem LI.start(n:Nat)(hn:n=nds.length):LI nds ps (List.range n):=by
 have e:∀i,i<n->lf (List.range n) i=i:=λi hi=>by unfold lf;simp[List.getD_eq_getElem?_getD,hi]
 have e2:∀i,¬i<n->lf (List.range n) i=0:=λi hi=>by unfold lf;refine ae (gB _ _ (by simp;exact gZ hi)) ?_;rfl
 refine⟨by simp[hn],⟨λi=>?_,λi=>?_,λi j hi hj h=>?_⟩⟩
 ·by_cases hi:i<n
  ·exact ae (e i hi) (Kz _)
  ·exact ae (e2 i hi) (Kt _)
 ·by_cases hi:i<n
  ·exact ae (e i hi) (ae (e i hi) rfl)
  ·refine ae (e2 i hi) ?_;by_cases h0:0<n
   ·exact e 0 h0
   ·exact e2 0 h0
 ·rw[e i (aM hi hn),e j (aM hj hn)]at h;exact ae h (.refl _)
theorem LI.merge(I:LI nds ps ls){a b:Nat}(ha:a<nds.length)(hb:b<nds.length)(hc:Cg nds ps a b):LI nds ps (dC ls (min (lf ls a) (lf ls b)) (max (lf ls a) (lf ls b))):=by
 have F:=I.2;generalize hx:min (lf ls a) (lf ls b)=x;generalize hy:max (lf ls a) (lf ls b)=y;have cy:x<=y:=Te hy hx;have e:=xy (ls:=ls) cy;have' fx:lf ls x=x:=by
  rcases(show x=lf ls a\/x=lf ls b by exact HN hx) with h | h <;> refine ae h ?_ <;> exact F.2 _
 have' fy:lf ls y=y:=by
  rcases(show y=lf ls a\/y=lf ls b by exact HO hy) with h | h <;> refine ae h ?_ <;> exact F.2 _
 have' la:_:=F.1 a;have' lb:_:=F.1 b;have' DV:Cg nds ps y x:=by
  have' c1:Cg nds ps (lf ls a) a:=F.3 _ _ (wo la ha) ha (F.2 a);have' c2:Cg nds ps (lf ls b) b:=F.3 _ _ (wo lb hb) hb (F.2 b);have c3:Cg nds ps (lf ls a) (lf ls b):=c1.trans (hc.trans c2.symm);by_cases q:lf ls a<=lf ls b
  ·have' e1:x=lf ls a:=Tg hx q;have' e2:y=lf ls b:=Ti hy q;exact ae e1 (ae e2 c3.symm)
  ·have e1:x=lf ls b:=Tj hx q;have' e2:y=lf ls a:=Tn hy hx e1 q;exact ae e1 (ae e2 c3)
 have dU:∀i,i<nds.length->Cg nds ps i (lf (dC ls x y) i):=λi hi=>by
  have' li:_:=F.1 i;have c1:Cg nds ps i (lf ls i):=F.3 _ _ hi (wo li hi) (F.2 i).symm;rw[e];split
  ·rename_i q;rw[q]at c1;exact c1.trans DV
  ·exact c1
 refine⟨by unfold dC;rw[List.length_map];exact I.1,⟨λi=>?_,λi=>?_,λi j hi hj h=>?_⟩⟩
 ·have:=F.1 i;rw[e];split <;> lia
 ·refine ae (e i) ?_;split
  ·rewrite [e];refine ae fx ?_;split <;> exact OA
  ·rename_i q;rewrite [e,F.2];refine ae (if_neg q) ?_;rfl
 ·have' c1:_:=dU i hi;have' c2:_:=dU j hj;rw[h]at c1;exact c1.trans c2.symm
theorem zeD(hl:low<=high)(h:lf ls i=lf ls j):lf (dC ls low high) i=lf (dC ls low high) j:=by
 rewrite [xy hl,xy hl];refine ae h ?_;rfl
theorem zcP(a b:Nat):lf (dC ls (min (lf ls a) (lf ls b)) (max (lf ls a) (lf ls b))) a=lf (dC ls (min (lf ls a) (lf ls b)) (max (lf ls a) (lf ls b))) b:=by
 rw[xy Il,xy Il];split <;> split <;> lia
theorem MY(low high:Nat):(dC ls low high).length=ls.length:=by exact Vm ..
theorem zkp(I:LI nds ps ls){low high:Nat}(hl:low<=high)(h1:lf ls low=low):cnt (dC ls low high)<=cnt ls:=by
 unfold cnt;rw[MY];refine List.countP_mono_left λi hi h=>?_;rw[beq_iff_eq]at h |-;rw[xy hl]at h;split at h
 ·rename_i q;subst h;exact h1
 ·exact h
theorem zbr(I:LI nds ps ls){low high:Nat}(hl:low<high)(h1:lf ls low=low)(h2:lf ls high=high)(h3:high<ls.length):cnt (dC ls low high)+1<=cnt ls:=by
 have' key:∀l:List Nat,high∈l->(l.countP λi=>lf (dC ls low high) i == i)+1<=l.countP λi=>lf ls i == i:=by
  intro l;have' mono:∀l:List Nat,(l.countP λi=>lf (dC ls low high) i == i)<=l.countP λi=>lf ls i == i:=λl=>by
   refine List.countP_mono_left λi hi h=>?_;rw[beq_iff_eq]at h |-;rw[xy (CQ hl)]at h;split at h
   ·rename_i q;subst h;exact h1
   ·exact h
  induction l with
  | nil=>intro h;cases h
  | cons a r ih =>
   intro h;refine ae Md ?_;refine ae Md ?_;by_cases e:a=high
   ·subst e;have' q1:(lf (dC ls low a) a == a)=false:=by
     rewrite [xy (CQ hl)];refine ae (if_pos h2) ?_;simp;exact Zi hl
    have' q2:(lf ls a == a)=true:=by simp[h2]
    refine ae q1 ?_;refine ae q2 ?_;have' this:_:=mono r;simp;exact Oz this
   ·have h':high∈r:=by
     rcases Kw.mp h with q | q
     ·exact absurd q.symm e
     ·exact q
    have' h3:_:=ih h';have' h4:(if (lf (dC ls low high) a == a)=true then 1 else 0)<=(if (lf ls a == a)=true then 1 else 0):=by
     by_cases q:(lf (dC ls low high) a == a)=true
     ·have' this:(lf ls a == a)=true:=by
       rw[beq_iff_eq]at q |-;rw[xy (CQ hl)]at q;split at q
       ·subst q;exact h1
       ·exact q
      exact ae (if_pos q) (ae (if_pos this) (Kz _))
     ·exact ae (if_neg q) (Kt _)
    exact Oj (ih h') h4
 unfold cnt;rw[MY];exact key _ (K8.mpr h3)
noncomputable def HM(nds:List Nd)(ls:List Nat)(i:Nat)(kn:List (Nd × Nat))(late:List (Nat × Nat)):Prop:=A6
 (∀(j:Nat) nd,j<i->nds[j]? = some nd->∃m,(zF (lf ls) nd,m)∈kn/\(lf ls m=lf ls j\/(m,j)∈late))
 (∀nd m,(nd,m)∈kn->m<i/\∃bK,nds[m]? = some bK/\nd=zF (lf ls) bK)
 ((kn.map (·.1)).Nodup)
 (∀p∈late,A4 (p.1<nds.length) (p.2<nds.length) (lf ls p.1≠lf ls p.2) (E2 λa b=>A3 (nds[p.1]? = some a) (nds[p.2]? = some b) (zF (lf ls) a=zF (lf ls) b)))
 (kn.length<=i)
 (late.length<=i)
theorem HM.nil:HM nds ls 0 [] []:=⟨λj nd h=>absurd h (K4 _),λnd m h=>(nomatch h),L3,λp h=>(nomatch h),Kz _,Kz _⟩
theorem HM.fresh{i:Nat}{kn:List (Nd × Nat)}{late:List (Nat × Nat)}{nd:Nd}(H:HM nds ls i kn late)(hn:nds[i]? = some nd)(hk:∀m,(zF (lf ls) nd,m)∉kn):HM nds ls (i+1) (kn++[(zF (lf ls) nd,i)]) late:=by
 refine⟨λj bK hj bB=>?_,λbK m hm=>?_,?_,H.4,by refine ae Ki ?_;refine ae Kj ?_;have' this:_:=H.5;exact Cz this,by have' this:_:=H.6;exact JT this⟩
 ·by_cases e:j=i
  ·subst e;rw[hn]at bB;obtain rfl:=Option.some.inj bB;exact⟨j,Ko.mpr (.inr (.head _)),.inl rfl⟩
  ·refine zt (H.1 j bK (xB hj e) bB) λm h1 h2=>?_;exact⟨m,Ko.mpr (.inl h1),h2⟩
 ·rcases Ko.mp hm with hm | hm
  ·refine bE (H.2 bK m hm) λh1 h2=>?_;exact⟨by exact xh h1,h2⟩
  ·cases List.mem_singleton.mp hm;exact⟨Ln _,nd,hn,rfl⟩
 ·refine ae K2 ?_;rw[List.nodup_append];refine⟨H.3,(Ll _ _),λx hx y hy e=>?_⟩;rw[List.map_cons,List.map_nil,List.mem_singleton]at hy;subst e;refine zV (Kr.mp hx) λfK h1 h2=>?_;obtain⟨bK,m⟩:=fK;dsimp only at h2;rw[h2,hy]at h1;exact hk m h1
theorem HM.same{i m:Nat}{kn:List (Nd × Nat)}{late:List (Nat × Nat)}{nd:Nd}(H:HM nds ls i kn late)(hn:nds[i]? = some nd)(hk:(zF (lf ls) nd,m)∈kn)(he:lf ls m=lf ls i):HM nds ls (i+1) kn late:=by
 refine⟨λj bK hj bB=>?_,λbK m hm=>?_,H.3,H.4,by have' this:_:=H.5;exact JT this,by have' this:_:=H.6;exact JT this⟩
 ·by_cases e:j=i
  ·subst e;rw[hn]at bB;obtain rfl:=Option.some.inj bB;exact⟨m,hk,.inl he⟩
  ·exact H.1 j bK (xB hj e) bB
 ·refine bE (H.2 bK m hm) λh1 h2=>?_;exact⟨by exact xh h1,h2⟩
theorem HM.other{i m:Nat}{kn:List (Nd × Nat)}{late:List (Nat × Nat)}{nd:Nd}(H:HM nds ls i kn late)(hn:nds[i]? = some nd)(hk:(zF (lf ls) nd,m)∈kn)(he:lf ls m≠lf ls i):HM nds ls (i+1) kn (late++[(m,i)]):=by
 refine⟨λj bK hj bB=>?_,λbK m hm=>?_,H.3,λp hp=>?_,by have' this:_:=H.5;exact JT this,by refine ae Ki ?_;refine ae Kj ?_;have' this:_:=H.6;exact Cz this⟩
 ·by_cases e:j=i
  ·subst e;rw[hn]at bB;obtain rfl:=Option.some.inj bB;exact⟨m,hk,.inr (Ko.mpr (.inr (.head _)))⟩
  ·refine zt (H.1 j bK (xB hj e) bB) λm' h1 h2=>?_;exact⟨m',h1,h2.imp id λh=>Ko.mpr (.inl h)⟩
 ·refine bE (H.2 bK m hm) λh1 h2=>?_;exact⟨by exact xh h1,h2⟩
 ·rcases Ko.mp hp with hp | hp
  ·exact H.4 p hp
  ·refine ae (Kf.mp hp) ?_;refine GB (H.2 _ _ hk) λh1 bK h2 h3=>?_;exact⟨(Kb.mp h2).1,(Kb.mp hn).1,he,bK,nd,h2,hn,h3.symm⟩
theorem HM.closed(H:HM nds ls nds.length kn [])(hp:∀a b,(a,b)∈ps->lf ls a=lf ls b):yW nds ps (lf ls) :=
 ⟨(hp),
 (λi j a b hi hj h=>by
  refine zt (H.1 i a (Kb.mp hi).1 hi) λm h1 h2=>?_;refine zt (H.1 j b (Kb.mp hj).1 hj) λm' h3 h4=>?_;rw[h]at h1;have' this:_:=LO H.3 h1 h3;subst this;rcases h2 with h2 | h2
  ·rcases h4 with h4 | h4
   ·exact aR h2 (aR h4 rfl)
   ·cases h4
  ·cases h2)⟩
theorem HM.oF{i:Nat}{kn:List (Nd × Nat)}{late:List (Nat × Nat)}(I:LI nds ps ls)(Ib:BI nds)(H:HM nds ls i kn late){p:Nat × Nat}(hp:p∈late):Cg nds ps p.1 p.2:=by
 obtain⟨h1,h2,_,⟨x,ks⟩,⟨y,js⟩,h3,h4,h5⟩:=H.4 p hp;unfold zF at h5;injection h5 with h6 h7;dsimp only at h6 h7;subst h6;refine bE (qH h7) λhl hq=>?_;refine .mH h3 h4 hl λq aC=>?_;have' m1:ks.getD q 0∈ks:=by refine ae Kh ?_;refine ae (Ka aC) ?_;exact Ky aC
 have' m2:js.getD q 0∈js:=by refine ae Kh ?_;refine ae (Ka (hl▸aC)) ?_;exact Ky (hl▸aC)
 have' q1:_:=Ib.3 _ _ h3 _ m1;have' q2:_:=Ib.3 _ _ h4 _ m2;exact I.2.3 _ _ (Zj q1 h1) (Zj q2 h2) (hq q aC)
end
section
set_option genSizeOf false
set_option genInjectivity false
variable {B:Bs} {A:Around} {S:St}
variable {nds:List Nd} {ps:List (Nat × Nat)}
theorem Mp.bc{m m':Mp}(h:m.le m'){a:Addr}(ha:m a=none)(c:jn):m.le (upd m' a c):=λb x q=>by
 exact ae (zb _ _ (λe=>by rw[e,ha]at q;injection q)) (h b x q)
noncomputable def jv(k:Mp)(xs:List Value)(prs:List (Nat × Nat)):Prop:=xs.length=prs.length/\∀(i:Nat) v p,xs[i]? = some v->prs[i]? = some p->∃a t u,v = .ref a/\k a=some (.tup [.int (p.1:Nat) t,.int (p.2:Nat) u])
theorem jv.mono(h:jv k xs prs)(le:k.le k'):jv k' xs prs:=⟨h.1,λi v p h1 h2=>by refine Zh (h.2 i v p h1 h2) λa t u e1 e2=>?_;exact⟨a,t,u,e1,le _ _ e2⟩⟩
theorem jv.snoc{k:Mp}{xs:List Value}{prs:List (Nat × Nat)}(h:jv k xs prs){a:Addr}{x y:Nat}{t u:Tok}(ha:k a=some (.tup [.int (x:Nat) t,.int (y:Nat) u])):jv k (xs++[.ref a]) (prs++[(x,y)]):=by
 refine⟨by simp[h.1],λi v p hv hp=>?_⟩;have h1:=h.1;by_cases e:i<xs.length
 ·rw[List.getElem?_append_left e]at hv;rw[List.getElem?_append_left (jx e h1)]at hp;exact h.2 i v p hv hp
 ·have h4:=(Kb.mp hv).1;rw[List.length_append,List.length_singleton]at h4;have' this:i=xs.length:=qZ h4 e;subst this;rw[List.getElem?_append_right (Nat.le_refl _),Nat.sub_self]at hv;rw[h1,List.getElem?_append_right (Nat.le_refl _),Nat.sub_self]at hp;obtain rfl:=Option.some.inj hv;obtain rfl:=Option.some.inj hp;exact⟨a,t,u,rfl,ha⟩
theorem jv.nil(k:Mp):jv k [] []:=⟨rfl,λi v p h=>by injection h⟩
noncomputable def gp(B:Bs)(la:Addr)(xs:List Value)(prs:List (Nat × Nat)):gH B:=(zf B la xs).more λS=>jv S.k xs prs
theorem zbs(hit:∃o,s.heap.get? it=some o/\o.cls = .type "list_iterator"/\o.data = .fields #[.ref l,.int i 0])(h:Q () s):
  wpAny (model prog w) A (letOwnedTupleGo target (.ref it) v) Q E s:=by
 refine qY hit λo ho hc hd=>?_;cases target <;> first
  | exact wpAny_pure h
  | (cases v <;> first
    | exact wpAny_pure h
    | (refine wpAny_bind (wpAny_load ho ?_);refine ae hc ?_;refine ae hd ?_;exact wpAny_pure h))
theorem zbt(hh:A.handled=none)(en:En env sc)(hx:ym (sc.names.lookup x)=true)(hy:ym (sc.names.lookup y)=true)(ho:own=true\/(sc.names.lookup x=some .local/\sc.names.lookup y=some .local)):
  gG B A own env (.Tuple [.Name x px,.Name y py] k pos) (gp B la xs prs).src (λi vs S vs' S'=>S'=S/\∃u w,(∃p t1 t2,prs[i]? = some p/\u = .int (p.1:Nat) t1/\w = .int (p.2:Nat) t2)/\vs'=zi (zi vs x u) y w) :=
 WQ (gp B la xs prs) (λi u w=>∃p t1 t2,prs[i]? = some p/\u = .int (p.1:Nat) t1/\w = .int (p.2:Nat) t2) hh en hx hy ho (λS i v hn hv=>by
  have h1:jv S.k xs prs:=hn.2;have fY:xs[i]? = some v:=hv;have' hi:_:=(Kb.mp fY).1;have eZ:i<prs.length:=aR h1.1 hi;refine Zh (h1.2 i v _ fY (Ka eZ)) λa t u e1 e2=>?_;exact⟨a,_,_,e1,gk e2,_,t,u,Ka eZ,rfl,rfl⟩) (λhit h=>zbs hit h)
theorem xA{vs:List Value}{ls:List Nat}(h:IntsAre vs (ls.map Int.ofNat)){i:Nat}(hi:i<ls.length):∃t,vs[i]? = some (.int (lf ls i:Nat) t):=jk h hi
theorem zkq(Ib:BI nds):yW nds [] (lf (List.range nds.length)) :=
 ⟨(λa b h=>nomatch h),
 (λi j a b hi hj h=>by
  have' e:∀k,k<nds.length->lf (List.range nds.length) k=k:=λk hk=>by unfold lf;simp[List.getD_eq_getElem?_getD,hk]
  have co:∀(i:Nat) a,nds[i]? = some a->zF (lf (List.range nds.length)) a=a:=λi a hi=>by
   refine Prod.ext rfl ?_;refine(?_:a.2.map _=a.2);refine(Mk λk hk=>?_).trans (List.map_id _);have' h1:_:=Ib.3 i a hi k hk;have' h2:_:=(Kb.mp hi).1;exact e k (Zj h1 h2)
  rw[co i a hi,co j b hj]at h;subst h;have' kN:_:=(Kb.mp hi).1;have' this:_:=(Mx kN Ib.5).mp (hi.trans hj.symm);exact ae this rfl)⟩
theorem zbu{no pa:Addr}{as:List Addr}{pv:List Value}{Q:Value->St->Prop}(R:zC 1 A)(Ib:BI nds)(aH:S.m no=some (.list (as.map .ref)))(hN:jl S.k as nds)(hZ:S.m pa=some (.list pv))(hP:jv S.k pv ps)(lF:∀a b,(a,b)∈ps->a<nds.length/\b<nds.length)(hz:ps.length<=100)(h:∀c k' out ls,S.k.le k'->k' c=some (.list out)->IntsAre out (ls.map Int.ofNat)->ls.length=nds.length->Rep nds ps (lf ls)->yW nds ps (lf ls)->Q (.ref c) (S.to .k k')):V B A S (call (.ref 515) [.ref no,.ref pa]) Q:=by
 refine zL (f:=515) (binds:=[("nodes",.ref no),("pairs",.ref pa)]) (n:=0) (by delta Bs.K;k_is) (by kernel_rfl) R rfl (by rfl) (by kernel_rfl) ?_;intro A' env R' en;dsimp only at en;have small:=Ib.1;have dj:=hN.1;have' hu:A'.units<cLine:=R'.u;w_fin;refine yi (qA en (by rfl)) ?_;refine zN ?_;w_fin;o_unpack Dw;o_unpack qP;o_unpack yo;refine ao (zI (by w_left) (by rw[List.length_map];exact JS dj small) λt1=>?_);rewrite [List.length_map];refine ae dj ?_;refine ao (ql λa1 k1 u1 v1 aU kI oA=>?_);w_fin;refine ao (XM (r:=.k) R'.3 (zS small rfl) (gk kI) λlc lv hI EB=>?_);have' v8:k1 lc=none:=EB .k;o_reads;have' bt:k1.le (upd k1 lc (.list lv)):=Mp.av v8;have' oG:_:=za k1 lc (.list lv);revert bt;revert oG;refine gen (upd k1 lc (.list lv)) λk2=>?_;intro oG bt;have' iR:_:=Mp.le_trans aU bt;w_fin;o_unpack Dw;refine ao (ZU (r:=.p) (kZ hZ) (ae hP.1 (zS hz rfl)) λla Aa=>?_);have' EC:S.p la=none:=Aa .p;o_reads;w_fin;refine ze (Kq _ _) λc3 k3 aV DA ZZ=>?_;dsimp only[St.put,St.to,St.get]at aV DA |-;refine jU R'.3 (.inl (gk DA)) rfl (yB en rfl rfl (.inl rfl) ?_) (by rfl);w_means;refine(?_:W B A' true env [("nodes",.ref no),("pairs",.ref pa),("least",.ref lc),("late",.ref la)] _ _ _);have cQ:=Mp.le_trans iR aV;have' ED:_:=aV _ _ oG;have' LI0:LI nds ps (List.range nds.length):=LI.start _ rfl;have' Ab:Vs.Sub [("nodes",.ref no),("least",.ref lc),("late",.ref la)] [("nodes",.ref no),("pairs",.ref pa),("least",.ref lc),("late",.ref la)]:=λy v hy=>by
  unfold zo at hy |-;rw[List.lookup_cons]at hy |-;by_cases e:y="nodes"
  ·subst e;exact hy
  ·have n1:(y == ("nodes":Str))=false:=by simpa using e
   rw[n1]at hy |-;dsimp only at hy |-;refine ae Lc ?_;by_cases e2:y="pairs"
   ·subst e2;injection hy
   ·have' n2:(y == ("pairs":Str))=false:=by simpa using e2
    exact ae n2 hy
 w_fin
 let Inv1:Nat->Vs->St->Prop:=λm vs' S'=>E8 λk' p' lc lv ls la oH prs=>VJ (S'=⟨k',S.b,S.u,S.l,S.h,S.v,p',S.m⟩) (S.k.le k') (S.p.le p') (k' lc=some (.list lv)) (IntsAre lv (ls.map Int.ofNat)) (LI nds ps ls) (p' la=some (.list oH)) (jv k' oH prs) (∀p∈prs,p.1<nds.length/\p.2<nds.length/\Cg nds ps p.1 p.2) (prs.length<=100) (∀a b,(a,b)∈ps->(a,b)∈prs\/lf ls a=lf ls b) (prs=[]->yW nds ps (lf ls)) (((∀p∈prs,lf ls p.1≠lf ls p.2)/\m=cnt ls)\/m=cnt ls+1) (Vs.Sub [("nodes",.ref no),("least",.ref lc),("late",.ref la)] vs')
 refine wx Inv1 _
  ⟨k3,_,lc,lv,_,la,pv,ps,rfl,cQ,Mp.av EC,ED,hI,LI0,za _ _ _,hP.mono cQ,λp hp=>⟨(lF _ _ hp).1,(lF _ _ hp).2,.pair hp⟩,hz,λa b h=>.inl h,λe=>ae e (zkq Ib),.inr rfl,Ab⟩ ?_
 rintro m vs' S' ⟨k,p,lc,lv,ls,la,oH,prs,rfl,le,oI,oG,hI,BU,Aa,EE,hcg,hpz,mr,eD,hm,bV⟩;have oJ:=EE.1;refine jT bV ?_;w_fin;refine jM ?_;w_fin;refine ya (Kt _) λc5 k5 aP Ac ZZ=>?_;dsimp only[St.put,St.to,St.get]at aP Ac |-;w_fin;refine ao (gU hu (kY Aa) (gk Ac) ?_);refine zc ?_;cases MZ:oH.isEmpty with
 | true =>
  refine jf rfl ?_;have' e1:prs=[]:=by
   have' h1:oH=[]:=by simpa using MZ
   rw[h1]at oJ;exact Lk.mp oJ.symm
  w_fin;exact⟨⟨k5,S.b,S.u,S.l,S.h,S.v,S.p,S.m⟩,St.lM (Mp.le_refl _) (Mp.le_refl _) (Mp.le_refl _) (Mp.le_refl _) (Mp.le_refl _) (Mp.le_refl _) oI (Mp.le_refl _),h lc k5 lv ls (Mp.le_trans le aP) (aP _ _ oG) hI BU.1 BU.2 (eD e1)⟩
 | false =>
  refine z7 rfl ?_;have' rg:0<prs.length:=by
   refine aR oJ ?_;cases oH with
   | nil=>injection MZ
   | cons _ _=>exact Kv _
  w_fin;have' EF:_:=aP _ _ oG;have' lrl:_:=BU.1
  let Inv2:(Unit)->Nat->Vs->St->Prop:=λj i vs' S'=>E4 λk4 dk lI aJ=>CX (S'=⟨k4,S.b,S.u,S.l,S.h,S.v,p,S.m⟩) (k5.le k4) (k4 dk=some (.list lI)) (IntsAre lI (aJ.map Int.ofNat)) (LI nds ps aJ) (∀x y,lf ls x=lf ls y->lf aJ x=lf aJ y) (∀(q:Nat) pr,q<i->prs[q]? = some pr->lf aJ pr.1=lf aJ pr.2) (cnt aJ<=cnt ls) (i=0->aJ=ls) (0<i->(∀pr∈prs,lf ls pr.1≠lf ls pr.2)->cnt aJ+1<=cnt ls) (Vs.Sub [("nodes",.ref no),("least",.ref dk),("late",.ref la)] vs')
  refine qi (λj:Unit=>(gp B la oH prs).src) Inv2 R'.3 (zY (λj:Unit=>gp B la oH prs) ?_) (λj=>zbt R'.3 en (by rfl) (by rfl) (.inl rfl)) ?_ ?_ ?_
  ·w_fin;exact⟨(),rfl,⟨kY Aa,EE.mono aP⟩,k5,lc,lv,ls,rfl,Mp.le_refl _,EF,hI,BU,λZZ ZZ h=>h,λq pr hq=>absurd hq (K4 _),Kz _,λZZ=>rfl,λh=>absurd h (L0 _),Vs.Sub.refl _⟩
  ·rintro j i vs' S' ⟨k4,dk,lI,aJ,rfl,aG,_⟩;exact⟨kY Aa,(EE.mono aP).mono aG⟩
  ·rintro j i vs' S' cW bg aQ ⟨k4,dk,lI,aJ,rfl,aG,sy,iT,lJ,sz,cM,nr,BV,kD,nv⟩ bZ;refine JW bZ λbo u w CZ cA=>?_;obtain rfl:=bo;obtain⟨pr,t1,t2,km,rfl,rfl⟩:=CZ;obtain rfl:=cA;obtain⟨a,b⟩:=pr;dsimp only;refine JR (hcg _ (Kx km)) λha hb eM=>?_;dsimp only at ha hb eM;have l4:=lJ.1;refine aB (xA iT (i:=a) (aM ha l4)) λta Nb=>?_;refine aB (xA iT (i:=b) (aM hb l4)) λtb BW=>?_;refine jT (vs':=[("nodes",.ref no),("least",.ref dk),("late",.ref la),("a",.int (a:Nat) t1),("b",.int (b:Nat) t2)]) (λy u hy=>?_) ?_
   ·rw[zw,zw];have e2:zo [(("nodes":Str),Value.ref no),("least",.ref dk),("late",.ref la),("a",.int (a:Nat) t1),("b",.int (b:Nat) t2)] y=zo (zi (zi [("nodes",.ref no),("least",.ref dk),("late",.ref la)] "a" (.int (a:Nat) t1)) "b" (.int (b:Nat) t2)) y:=rfl;rw[e2,zw,zw]at hy;split
    ·rename_i e;rw[if_pos e]at hy;exact hy
    ·rename_i e;rw[if_neg e]at hy;split
     ·rename_i e;rw[if_pos e]at hy;exact hy
     ·rename_i e;rw[if_neg e]at hy;exact nv y u hy
   w_fin;refine yi (qA en (by rfl)) ?_;refine zN ?_;w_fin;o_unpack zlK;refine ao (zm (by w_left) Nb ?_ (df ha small));w_fin;refine ao (zm (by w_left) BW ?_ (df hb small));w_fin;refine ao (WN R'.3 λt5=>?_);w_fin;o_unpack KZ;refine ao (zm (by w_left) Nb ?_ (df ha small));w_fin;refine ao (zm (by w_left) BW ?_ (df hb small));w_fin;refine ao (WM R'.3 λt6=>?_);w_fin;have e1:(if (((lf aJ b:Nat):Int))<((lf aJ a:Nat):Int) then((lf aJ b:Nat):Int) else((lf aJ a:Nat):Int))=((min (lf aJ a) (lf aJ b):Nat):Int):=Oo ..;have e2:(if (((lf aJ b:Nat):Int)) > ((lf aJ a:Nat):Int) then((lf aJ b:Nat):Int) else((lf aJ a:Nat):Int))=((max (lf aJ a) (lf aJ b):Nat):Int):=Oq ..;refine ae e1 ?_;refine ae e2 ?_;have' Ad:_:=lJ.merge ha hb eM;have' hj:_:=zcP (ls:=aJ) a b;have fx:lf aJ (min (lf aJ a) (lf aJ b))=min (lf aJ a) (lf aJ b):=by
    rcases(show min (lf aJ a) (lf aJ b)=lf aJ a\/min (lf aJ a) (lf aJ b)=lf aJ b by exact TX e1) with h | h <;> refine ae h ?_ <;> exact lJ.2.2 _
   have' fy:lf aJ (max (lf aJ a) (lf aJ b))=max (lf aJ a) (lf aJ b):=by
    rcases(show max (lf aJ a) (lf aJ b)=lf aJ a\/max (lf aJ a) (lf aJ b)=lf aJ b by exact TY e2 e1) with h | h <;> refine ae h ?_ <;> exact lJ.2.2 _
   have hle:min (lf aJ a) (lf aJ b)<=max (lf aJ a) (lf aJ b):=T2 e2 e1;have c1:=zkp lJ hle fx;have' la4:_:=lJ.2.1 a;have' lb4:_:=lJ.2.1 b;have' c2:lf aJ a≠lf aJ b->cnt (dC aJ (min (lf aJ a) (lf aJ b)) (max (lf aJ a) (lf aJ b)))+1<=cnt aJ:=λaO=>zbr lJ (T4 hle aO e2 e1) fx fy (T5 ha hb l4 e1 e2 la4 lb4);have eR:∀x y,lf aJ x=lf aJ y->lf (dC aJ (min (lf aJ a) (lf aJ b)) (max (lf aJ a) (lf aJ b))) x=lf (dC aJ (min (lf aJ a) (lf aJ b)) (max (lf aJ a) (lf aJ b))) y:=λx y h=>zeD hle h;revert Ad;revert hj;revert fx;revert fy;revert hle;revert c1;revert c2;revert eR;refine gen (min (lf aJ a) (lf aJ b)) λlow=>?_;intro eR c2 c1 hle fy fx hj Ad;revert Ad;revert hj;revert fx;revert fy;revert hle;revert c1;revert c2;revert eR;refine gen (max (lf aJ a) (lf aJ b)) λhigh=>?_;intro eR c2 c1 hle fy fx hj Ad;refine ze (Kq _ _) λc7 k7 bO iO ZZ=>?_;dsimp only[St.put,St.to,St.get]at bO iO |-;refine jU R'.3 (.inl (gk iO)) rfl (yB en rfl rfl (.inl rfl) ?_) (by rfl);w_means;refine(?_:W B A' true env [("nodes",.ref no),("least",.ref dk),("late",.ref la),("a",.int (a:Nat) t1),("b",.int (b:Nat) t2),("low",.int (low:Nat) t5),("high",.int (high:Nat) t6)] _ _ _);have oK:=bO _ _ sy;have BX:=iT.length;rw[List.length_map]at BX;w_fin;refine qS en (by rfl) ?_ ((g9 en).trans (by rfl))
   let iN:(Unit)->Nat->St->List Value->Prop:=λjj q S' l=>∃k8,A3 (S'=⟨k8,S.b,S.u,S.l,S.h,S.v,p,S.m⟩) (k7.le k8) (IntsAre l ((dC (aJ.take q) low high).map Int.ofNat))
   refine zG .k (λjj:Unit=>(zf B dk lI).src) [("low",.int (low:Nat) t5),("high",.int (high:Nat) t6)]
    iN en (by kernel_rfl) ⟨by decide,rfl,by decide,rfl,trivial⟩ R'.3 (λZZ=>by refine(?_:lI.length<=_);exact JV BX l4 small rfl) (zY (λjj:Unit=>zf B dk lI) ?_) (λjj env2 bq=>zr _ bq (by rfl) (.inr (by rfl))) ?_ ?_ ?_ ?_
   ·w_fin;exact⟨(),rfl,gk oK,rfl,k7,rfl,Mp.le_refl _,.nil⟩
   ·intro jj q S' l rB;refine gL rB λk8 eB ey ZZ=>?_;obtain rfl:=eB;exact gk (ey _ _ oK)
   ·intro jj q S' vs' bg og;refine zJ og λiI v ZZ eC=>?_;obtain rfl:=iI;obtain rfl:=eC;exact Vs.Sub.set rfl
   ·intro jj env2 bq q S' l vs' bg iU mY;refine gL mY λk8 fc ey ny=>?_;obtain rfl:=fc;intro mz;refine zJ mz λiK v hv iP=>?_;obtain rfl:=iK;obtain rfl:=iP;have aA:q<aJ.length:=by have' this:q<lI.length:=iU;exact HK this l4 BX
    refine aB (xA iT aA) λt8 oj=>?_;have' ev:v = .int (lf aJ q:Nat) t8:=Option.some.inj (hv.symm.trans oj);subst ev;dsimp only[jA,zi];refine z7 rfl ?_;refine wu ?_;w_fin;refine ao (xb ?_);refine zc ?_;have et:dC (aJ.take (q+1)) low high=dC (aJ.take q) low high++[if lf aJ q=high then low else lf aJ q]:=by
     unfold dC lf;refine ae Lu ?_;refine ae (Ka aA) ?_;refine ae K2 ?_;refine ae Kh ?_;refine ae (Ka aA) ?_;rfl
    by_cases e:lf aJ q=high
    ·have' c:((((lf aJ q:Nat):Int)) == ((high:Nat):Int))=true:=by refine ae e ?_;exact if_pos rfl
     refine z7 c ?_;w_fin;refine⟨Vs.Sub.refl _,k8,rfl,ey,?_⟩;refine ae et ?_;refine ae (if_pos e) ?_;exact gg ny
    ·have' c:((((lf aJ q:Nat):Int)) == ((high:Nat):Int))=false:=by rw[beq_eq_false_iff_ne];exact XA e
     refine jf c ?_;w_fin;refine⟨Vs.Sub.refl _,k8,rfl,ey,?_⟩;refine ae et ?_;refine ae (if_neg e) ?_;exact gg ny
   ·intro jj S' l D rS;refine gL rS λk8 mC ey ny=>?_;obtain rfl:=mC;intro di;have' e9:aJ.take (zf B dk lI).src.n=aJ:=by
     have' this:(zf B dk lI).src.n=aJ.length:=BX;exact ae this (ae Mc rfl)
    rw[e9]at ny;have' cm:k8 D=none:=di .k;o_reads;w_fin;refine⟨_,D,l,dC aJ low high,rfl,Mp.le_trans aG (Mp.le_trans bO (Mp.le_trans ey (Mp.av cm))),za _ _ _,ny,Ad,λx y h=>eR x y (sz x y h),λq pr hq EG=>?_,by exact bX c1 nr,λe=>(Nat.succ_ne_zero _ e).elim,λZZ bS=>?_,?_⟩
    ·by_cases e:q=i
     ·subst e;rw[km]at EG;obtain rfl:=Option.some.inj EG;exact hj
     ·exact eR _ _ (cM q pr (xB hq e) EG)
    ·by_cases e:i=0
     ·have' e2:_:=BV e;subst e2;have' this:_:=c2 (bS _ (Kx km));exact T6 this c1
     ·have' this:_:=kD (T7 e) bS;exact T8 this c1 nr
    ·intro y u hy;have' hh:zo (zi [(("nodes":Str),Value.ref no),("least",.ref dk),("late",.ref la),("a",.int (a:Nat) t1),("b",.int (b:Nat) t2),("low",.int (low:Nat) t5),("high",.int (high:Nat) t6)] "least" (.ref D)) y=zo [(("nodes":Str),Value.ref no),("least",.ref D),("late",.ref la),("a",.int (a:Nat) t1),("b",.int (b:Nat) t2),("low",.int (low:Nat) t5),("high",.int (high:Nat) t6)] y:=rfl;refine ae hh ?_;have' e1:_:=(Vs.Sub.set (vs:=[("nodes",.ref no),("least",.ref D),("late",.ref la)]) (x:="a") (v:=.int (a:Nat) t1) rfl) y u hy;have' e2:_:=(Vs.Sub.set (vs:=[("nodes",.ref no),("least",.ref D),("late",.ref la),("a",.int (a:Nat) t1)]) (x:="b") (v:=.int (b:Nat) t2) rfl) y u e1;have' e3:_:=(Vs.Sub.set (vs:=[("nodes",.ref no),("least",.ref D),("late",.ref la),("a",.int (a:Nat) t1),("b",.int (b:Nat) t2)]) (x:="low") (v:=.int (low:Nat) t5) rfl) y u e2;exact(Vs.Sub.set (vs:=[("nodes",.ref no),("least",.ref D),("late",.ref la),("a",.int (a:Nat) t1),("b",.int (b:Nat) t2),("low",.int (low:Nat) t5)]) (x:="high") (v:=.int (high:Nat) t6) rfl) y u e3
  ·rintro j vs' S' ⟨k4,dk,lI,aJ,rfl,aG,sy,iT,lJ,sz,cM,nr,BV,kD,nv⟩;have rU:(gp B la oH prs).src.n=prs.length:=oJ;rw[rU]at cM kD;have' EH:cnt aJ<m:=by
    rcases hm with ⟨h1,h2⟩ | h2
    ·have' this:_:=kD rg h1;exact T9 this nr h2
    ·exact Ua nr h2
   have pC:∀a b,(a,b)∈ps->lf aJ a=lf aJ b:=λa b eM=>by
    rcases mr a b eM with h1 | h1
    ·refine aB (K9.mp h1) λq hq=>?_;exact cM q _ (Kb.mp hq).1 hq
    ·exact sz _ _ h1
   w_means;refine jT nv ?_;have l4:=lJ.1;w_fin;refine yQ (names:=["homes","late"]) (qA en (by rfl)) R'.3 ?_;refine zN ?_;w_fin;refine yD (r:=.p) λha hha=>?_;have' EI:p ha=none:=hha .p;o_reads;have Ae:S.p ha=none:=oI.none EI;have iV:=Mp.bc oI Ae (.dict []);have Af:=za p ha (.dict []);revert iV;revert Af;refine gen (upd p ha (.dict [])) λp1=>?_;intro Af iV;w_fin;refine jM ?_;w_fin;refine jr .p (Kt _) λlb hlb=>?_;have Ag:p1 lb=none:=hlb .p;o_reads;have Ah:S.p lb=none:=iV.none Ag;have' nz:_:=Mp.bc iV Ah (.list []);have sA:ha≠lb:=zD Af Ag;have' hd2:_:=(zb p1 (.list []) sA).trans Af;have' dQ:_:=za p1 lb (.list []);revert nz;revert hd2;revert dQ;refine gen (upd p1 lb (.list [])) λp2=>?_;intro dQ hd2 nz;clear iV Af;w_fin;refine ze (Kq _ _) λc9 Nc sC se ZZ=>?_;refine⟨c9,_,rfl,gk se,rfl,?_⟩;refine yR en (by rfl) (.inl rfl) ?_;refine yR en (by rfl) (.inl rfl) ?_;dsimp only[St.put,St.to,St.get,assignEach,List.map,qk]at sC se |-;w_means;refine(?_:W B A' true env [("nodes",.ref no),("least",.ref dk),("late",.ref lb),("homes",.ref ha)] _ _ _);have pD:=sC _ _ sy;have Ai:=Mp.le_trans le (Mp.le_trans aP (Mp.le_trans aG sC));w_fin
   let sE:Nat->Vs->St->Prop:=λi vs' S'=>E7 λk6 p6 sF oL kn ia du=>pO (S'=⟨k6,S.b,S.u,S.l,S.h,S.v,p6,S.m⟩) (Nc.le k6) (S.p.le p6) (p6 ha=some (.dict sF)) (p6 lb=some (.list ia)) (j2 B k6 sF oL) (Zb oL kn) (HM nds aJ i kn du) (jv k6 ia du) (Vs.Sub [("nodes",.ref no),("least",.ref dk),("late",.ref lb),("homes",.ref ha)] vs')
   refine IU (xm B no (as.map .ref)) sE R'.3 (J4 ?_) (Xe R'.3 en (by rfl) (by rfl) (.inl rfl)) ?_ ?_ ?_
   ·w_fin;o_unpack xY;refine ao (ZX (by w_left) λe it o aO Aj oM ho=>?_);exact⟨e,it,o,_,rfl,aO,Aj,oM,ho,rfl,Nc,p2,[],[],[],[],[],rfl,Mp.le_refl _,nz,hd2,dQ,j2.nil _ _,⟨rfl,λi z e h=>by injection h⟩,HM.nil,jv.nil _,Vs.Sub.refl _⟩
   ·rintro i vs' S' ⟨k6,p6,sF,oL,kn,ia,du,rfl,_⟩;exact kZ aH
   ·rintro i vs' S' cW bg aQ ⟨k6,p6,sF,oL,kn,ia,du,rfl,aZ,eF,lH,Ak,ND,KN,kU,P6,cG⟩ rH;refine JW rH λiL dH w hw r6=>?_;obtain rfl:=iL;obtain rfl:=r6;have aA:i<as.length:=by have' this:i<(as.map Value.ref).length:=aQ;rw[List.length_map]at this;exact this
    have' fH:w = .ref as[i]:=by rw[List.getElem?_map,List.getElem?_eq_getElem aA]at hw;exact(Option.some.inj hw).symm
    subst fH;refine Cp (as[i]) λb hb=>?_;have kN:i<nds.length:=jx aA dj;have' Al:_:=hN.2 i b _ (by refine ae (Ka aA) ?_;refine ae hb ?_;rfl) (Ka kN);have bB:nds[i]? = some nds[i]:=Ka kN;generalize nds[i]=nd at Al bB;have zk:=Ib.4 nd (Kx bB);have' kk:∀j∈nd.2,j<aJ.length:=λj hj=>by have' this:_:=Ib.3 i nd bB j hj;exact Ir this l4 aA dj
    have cP:=Mp.le_trans Ai aZ;have Am:=aZ _ _ pD;refine gs (Al.mono cP) λvb EJ tb rb EK An=>?_;subst EK;have nP:=An.length;rw[List.length_map]at nP;refine jT (vs':=[("nodes",.ref no),("least",.ref dk),("late",.ref lb),("homes",.ref ha),("n",.int (i:Nat) dH),("node",.ref b)]) (λy u hy=>?_) ?_
    ·rw[zw,zw];have e2:zo [(("nodes":Str),Value.ref no),("least",.ref dk),("late",.ref lb),("homes",.ref ha),("n",.int (i:Nat) dH),("node",.ref b)] y=zo (zi (zi [("nodes",.ref no),("least",.ref dk),("late",.ref lb),("homes",.ref ha)] "n" (.int (i:Nat) dH)) "node" (.ref b)) y:=rfl;rw[e2,zw,zw]at hy;split
     ·rename_i e;rw[if_pos e]at hy;exact hy
     ·rename_i e;rw[if_neg e]at hy;split
      ·rename_i e;rw[if_pos e]at hy;exact hy
      ·rename_i e;rw[if_neg e]at hy;exact cG y u hy
    have ib:∀v,Vs.Sub [("nodes",.ref no),("least",.ref dk),("late",.ref lb),("homes",.ref ha)] [("nodes",.ref no),("least",.ref dk),("late",.ref lb),("homes",.ref ha),("n",.int (i:Nat) dH),("node",.ref b),("first",v)]:=λv y u hy=>by
     have' e1:_:=(Vs.Sub.set (vs:=[("nodes",.ref no),("least",.ref dk),("late",.ref lb),("homes",.ref ha)]) (x:="n") (v:=.int (i:Nat) dH) rfl) y u hy;have' e2:_:=(Vs.Sub.set (vs:=[("nodes",.ref no),("least",.ref dk),("late",.ref lb),("homes",.ref ha),("n",.int (i:Nat) dH)]) (x:="node") (v:=.ref b) rfl) y u e1;exact(Vs.Sub.set (vs:=[("nodes",.ref no),("least",.ref dk),("late",.ref lb),("homes",.ref ha),("n",.int (i:Nat) dH),("node",.ref b)]) (x:="first") (v:=v) rfl) y u e2
    w_fin;o_unpack wX;refine zN ?_;w_fin;refine ao (qq (k:=0) (v:=.str nd.1 tb) (by w_left) rfl ?_ (by decide));w_fin;refine ze (Kv _) λNf k7 bO Ao ZZ=>?_;dsimp only[St.put,St.to,St.get]at bO Ao |-;w_fin;o_unpack xp;have' oK:_:=bO _ _ Am
    let sG:(Addr)->Nat->St->List Value->Prop:=λjj q S' l=>∃k8,A4 (S'=⟨k8,S.b,S.u,S.l,S.h,S.v,p6,S.m⟩) (k7.le k8) (k8 jj=some (.tup rb)) (IntsAre l (((nd.2.take q).map (lf aJ)).map Int.ofNat))
    refine zG .k (λjj:Addr=>(jp B jj rb).src) [("least",.ref dk)]
     sG en (by kernel_rfl) ⟨by decide,rfl,trivial⟩ R'.3 (λZZ=>by refine(?_:rb.length<=_);exact z9 nP zk rfl) (zY (λjj:Addr=>jp B jj rb) ?_) (λjj env2 bq=>zr _ bq (by rfl) (.inr (by rfl))) ?_ ?_ ?_ ?_
    ·refine yl (by decide) ?_;w_fin;refine⟨b,_,rfl,gk (bO _ _ EJ),(Kv _),by simp;exact z9 nP zk rfl,λc8 k8 ey lE uY=>?_⟩;exact⟨c8,rfl,gk lE,rfl,k8,rfl,ey,lE,.nil⟩
    ·intro jj q S' l EL;refine q7 EL λk8 mF ey lE ZZ=>?_;obtain rfl:=mF;exact gk lE
    ·intro jj q S' vs' bg rJ;refine zJ rJ λmG v ZZ EP=>?_;obtain rfl:=mG;obtain rfl:=EP;exact Vs.Sub.set rfl
    ·intro jj env2 bq q S' l vs' bg iU ER;refine q7 ER λk8 EV ey lE ny=>?_;obtain rfl:=EV;intro EW;refine zJ EW λrN v hv EX=>?_;obtain rfl:=rN;obtain rfl:=EX;have bP:q<nd.2.length:=by have' this:q<rb.length:=iU;exact jx this nP
     refine aB (jk An bP) λt8 oj=>?_;have' ev:v = .int (nd.2.getD q 0:Nat) t8:=Option.some.inj (hv.symm.trans oj);subst ev;have pE:nd.2.getD q 0<aJ.length:=kk _ (by refine ae Kh ?_;refine ae (Ka bP) ?_;exact Ky bP);refine aB (xA iT pE) λt9 EY=>?_;have' hlc8:_:=ey _ _ oK;dsimp only[jA,zi];refine z7 rfl ?_;w_fin;refine ao (zm (by w_left) EY ?_ (df pE (l4▸small)));refine⟨Vs.Sub.refl _,k8,rfl,ey,lE,?_⟩;refine ae Lu ?_;refine ae (Ka bP) ?_;simp only[Option.toList_some,List.map_append,List.map_cons,List.map_nil];have' e:nd.2.getD q 0=nd.2[q]:=by refine ae Kh ?_;refine ae (Ka bP) ?_;rfl
     refine aR e ?_;exact IntsAre.append ny (.cons _ t9 .nil)
    ·intro jj S' l D EZ;refine q7 EZ λk8 E0 ey lE ny=>?_;obtain rfl:=E0;intro di;have e9:nd.2.take (jp B jj rb).src.n=nd.2:=by
      have' this:(jp B jj rb).src.n=nd.2.length:=nP;exact ae this (ae Mc rfl)
     rw[e9]at ny;have ll:=ny.length;rw[List.length_map,List.length_map]at ll;have' cm:k8 D=none:=di .k;o_reads;have' cL:k8.le (upd k8 D (.list l)):=Mp.av cm;have' hD:_:=za k8 D (.list l);revert cL;revert hD;refine gen (upd k8 D (.list l)) λk9=>?_;intro hD cL;w_fin;refine ao (yh (r:=.k) (gk hD) (z9 ll zk rfl) λBZ Ap=>?_);have' sH:k9 BZ=none:=Ap .k;o_reads;have' dm:k9.le (upd k9 BZ (.tup l)):=Mp.av sH;have' sI:_:=za k9 BZ (.tup l);revert dm;revert sI;refine gen (upd k9 BZ (.tup l)) λlK=>?_;intro sI dm;have pF:=Mp.le_trans ey (Mp.le_trans cL dm);w_fin;refine ao (y9 (pF _ _ Ao) sI (Kv _) (z9 ll zk rfl) λc12 E1 Aq Ar=>?_);dsimp only[St.put,St.to,St.get]at Aq Ar |-;have dv:=Mp.le_trans bO (Mp.le_trans pF Aq);have As:jH E1 c12 nd.1 ((nd.2.map (lf aJ)).map Int.ofNat):=⟨_,Ar,tb,l,rfl,ny⟩;have Ng:=dv _ _ Am;have nA:=ND.mono dv;have tN:=kU.5;have Au:=KN.len;have' Nh:_:=Mp.le_trans cP dv;refine aB (xA iT (i:=i) (Iu aA l4 dj)) λti Fb=>?_;w_fin;by_cases dx:∃m,(zF (lf aJ) nd,m)∈kn
     ·refine aB dx λmm nO=>?_;refine aB (KN.get nA nO) λtm Ni=>?_;refine zJ (kU.2 _ mm nO) λNj ndm hndm ZZ=>?_;refine aB (xA iT (i:=mm) (Ir Nj l4 aA dj)) λtmm Fc=>?_;refine ao (yv (r:=.p) (by have' this:_:=R'.2;refine(?_:_<9900);exact CT this) lH nA As (CU Au tN aA dj small rfl) (λw' fH=>?_) (λfX=>?_))
      ·have' this:w' = .int (mm:Nat) tm:=Option.some.inj (fH.symm.trans Ni);subst this;w_fin;refine ao (zm (by w_left) Fc ?_ (df (Mf Nj aA) (dj▸small)));w_fin;refine ao (zm (by w_left) Fb ?_ (df aA (dj▸small)));w_fin;refine ao (xc ?_);refine zc ?_;by_cases he:lf aJ mm=lf aJ i
       ·have' cc:((((lf aJ mm:Nat):Int)) != ((lf aJ i:Nat):Int))=false:=by refine ae he ?_;exact bne_self_eq_false _
        refine jf cc ?_;w_fin;exact⟨E1,p6,sF,oL,kn,ia,du,rfl,Mp.le_trans aZ dv,eF,lH,Ak,nA,KN,kU.same bB nO he,P6.mono dv,ib _⟩
       ·have' cc:((((lf aJ mm:Nat):Int)) != ((lf aJ i:Nat):Int))=true:=bne_iff_ne.mpr (XA he);refine z7 cc ?_;w_fin;o_unpack jS;refine zN ?_;w_fin;refine ze (Kq _ _) λc13 k13 mO Av ZZ=>?_;dsimp only[St.put,St.to,St.get]at mO Av |-;w_fin;have' z6:_:=kU.6;have' l6:_:=P6.1;refine ao (jR (r:=.p) Ak (CU l6 z6 aA dj small rfl) ?_);o_reads;w_fin;have pG:=Mp.le_trans dv mO;exact⟨k13,_,sF,oL,kn,_,_,rfl,Mp.le_trans aZ pG,Mp.bc eF Ah _,(zb _ _ sA).trans lH,za _ _ _,nA.mono mO,KN,kU.other bB nO he,(P6.mono pG).snoc Av,ib _⟩
      ·rw[show(nd.1,(nd.2.map (lf aJ)).map Int.ofNat)=bL (zF (lf aJ) nd) from rfl,Ni]at fX;injection fX
     ·have nN:∀m,(zF (lf aJ) nd,m)∉kn:=λm q=>dx ⟨m,q⟩;have cC:=KN.none nN;refine ao (yv (r:=.p) (by have' this:_:=R'.2;refine(?_:_<9900);exact CT this) lH nA As (CU Au tN aA dj small rfl) (λw' fH=>?_) (λZZ es' D'=>?_))
      ·rw[show(nd.1,(nd.2.map (lf aJ)).map Int.ofNat)=bL (zF (lf aJ) nd) from rfl,cC]at fH;injection fH
      ·o_reads;have' iW:_:=Mp.bc eF Ae (.dict es');have' Fd:_:=za p6 ha (.dict es');have' Fe:_:=(zb p6 (.dict es') (Ne.symm sA)).trans Ak;revert iW;revert Fd;revert Fe;refine gen (upd p6 ha (.dict es')) λp7=>?_;intro Fe Fd iW;w_fin;refine ao (zm (by w_left) Fb ?_ (df aA (dj▸small)));w_fin;refine ao (zm (by w_left) Fb ?_ (df aA (dj▸small)));w_fin;refine ao (xc ?_);refine zc ?_;have' cc:((((lf aJ i:Nat):Int)) != ((lf aJ i:Nat):Int))=false:=(bne_self_eq_false _);refine jf cc ?_;w_fin;refine⟨E1,p7,es',_,kn++[(zF (lf aJ) nd,i)],ia,du,rfl,Mp.le_trans aZ dv,iW,Fd,Fe,D',⟨?_,?_⟩,kU.fresh bB nN,P6.mono dv,ib _⟩
       ·exact ae K2 (ae K2 (ae KN.1 rfl))
       ·intro q z e' aS mN;by_cases eZ:q<oL.length
        ·rw[List.getElem?_append_left eZ]at aS;rw[List.getElem?_append_left (jx eZ Au)]at mN;exact KN.2 q z e' aS mN
        ·have kq:=(Kb.mp aS).1;rw[List.length_append,List.length_singleton]at kq;have' rO:q=oL.length:=Zk kq Au eZ;subst rO;rw[List.getElem?_append_right (Nat.le_refl _),Nat.sub_self]at aS;rw[Au,List.getElem?_append_right (Nat.le_refl _),Nat.sub_self]at mN;obtain rfl:=Option.some.inj aS;obtain rfl:=Option.some.inj mN;exact⟨dH,rfl⟩
   ·rintro vs' S' ⟨k6,p6,sF,oL,kn,ia,du,rfl,aZ,eF,lH,Ak,ND,KN,kU,P6,cG⟩;have Ff:(xm B no (as.map .ref)).n=nds.length:=by
     refine(?_:(as.map Value.ref).length=_);rw[List.length_map];exact dj
    rw[Ff]at kU;w_fin;refine⟨cnt aJ,EH,k6,p6,dk,lI,aJ,lb,ia,du,rfl,Mp.le_trans Ai aZ,eF,aZ _ _ pD,iT,lJ,Ak,P6,λpr km=>(by obtain⟨q1,q2,_,_⟩:=kU.4 pr km;exact⟨q1,q2,kU.oF lJ Ib km⟩),by have' this:_:=kU.6;exact xL this small rfl,λa b eM=>.inr (pC a b eM),λe=>?_,.inl ⟨λpr km=>(by obtain⟨_,_,q3,_⟩:=kU.4 pr km;exact q3),rfl⟩,?_⟩
    ·subst e;exact kU.closed pC
    ·intro y u hy;refine cG y u ?_;exact(Vs.Sub.set (vs:=[("nodes",.ref no),("least",.ref dk),("late",.ref lb)]) (x:="homes") (v:=.ref ha) rfl) y u hy
end
section
set_option genSizeOf false
set_option genInjectivity false
variable {B:Bs} {A:Around} {S:St}
variable {nds:List Nd} {ps:List (Nat × Nat)}
noncomputable def qI(B:Bs)(p:Mp)(bA:List Addr)(sv:Nat->List Int):Prop:=And
 (bA.Nodup)
 (∀(i:Nat) a,bA[i]? = some a->E2 λes t=>A3 (p a=some (.set es t)) (qm B es t) (zn es=sv i))
theorem qI.put{p:Mp}{bA:List Addr}{sv:Nat->List Int}(H:qI B p bA sv){i:Nat}{a:Addr}(ha:bA[i]? = some a){es:List (Int × Value)}{t:SetTable}(I:qm B es t):qI B (upd p a (.set es t)) bA (qa sv i (zn es)):=by
 refine⟨H.1,λj b hb=>?_⟩;by_cases e:j=i
 ·subst e;rw[ha]at hb;obtain rfl:=Option.some.inj hb;rw[zz];exact⟨es,t,za _ _ _,I,rfl⟩
 ·refine ae (ju _ _ e) ?_;refine jP (H.2 j b hb) λes' t' h1 h2 h3=>?_;have' this:b≠a:=λe'=>by
   subst e';have' hj:_:=(Kb.mp hb).1;exact e ((Mx hj H.1).mp (hb.trans ha.symm))
  exact⟨es',t',(zb _ _ this).trans h1,h2,h3⟩
theorem qI.other{p:Mp}{bA:List Addr}{sv:Nat->List Int}(H:qI B p bA sv){a:Addr}(ha:a∉bA)(c:jn):qI B (upd p a c) bA sv :=
 ⟨H.1,λj b hb=>by
  refine jP (H.2 j b hb) λes' t' h1 h2 h3=>?_;exact⟨es',t',(zb _ _ (λe:b=a=>ha (e▸Kx hb))).trans h1,h2,h3⟩⟩
noncomputable def yX(k:Mp)(fv:List Value)(fl:List (List Int)):Prop:=fv.length=fl.length/\∀(i:Nat) v,fv[i]? = some v->∃a us,v = .ref a/\k a=some (.tup us)/\IntsAre us (fl.getD i [])
theorem yX.mono(h:yX k fv fl)(le:k.le k'):yX k' fv fl:=⟨h.1,λi v e=>by refine jg (h.2 i v e) λa us h1 h2 h3=>?_;exact⟨a,us,h1,le _ _ h2,h3⟩⟩
noncomputable def Xs(n:Nat)(sv:Nat->List Int):Nat:=((List.range n).map λj=>15 - (sv j).length).sum
noncomputable def DI(nds:List Nd)(f:Nat->Nat)(tb:Str->List Int)(fm:Nat->List Int)(U:List Int)(sv:Nat->List Int):Prop:=And
 (∀i z,z∈sv i->qp nds f tb fm i z)
 (∀i z,z∈sv i->z∈U)
theorem DI.add{f:Nat->Nat}{tb:Str->List Int}{fm:Nat->List Int}{U:List Int}{sv:Nat->List Int}(D:DI nds f tb fm U sv){i:Nat}{l m:List Int}(hl:∀z,z∈l↔z∈sv i\/z∈m)(h1:∀z∈m,qp nds f tb fm i z)(h2:∀z∈m,z∈U):DI nds f tb fm U (qa sv i l):=by
 refine⟨λj z hz=>?_,λj z hz=>?_⟩
 ·by_cases e:j=i
  ·subst e;rw[zz]at hz;exact((hl z).mp hz).elim (D.1 j z) (h1 z)
  ·rw[ju _ _ e]at hz;exact D.1 j z hz
 ·by_cases e:j=i
  ·subst e;rw[zz]at hz;exact((hl z).mp hz).elim (D.2 j z) (h2 z)
  ·rw[ju _ _ e]at hz;exact D.2 j z hz
theorem gE{i:Nat}{l m:List Int}(hl:∀z,z∈l↔z∈sv i\/z∈m):∀j z,z∈sv j->z∈qa sv i l j:=λj z hz=>by
 by_cases e:j=i
 ·subst e;rw[zz];exact(hl z).mpr (.inl hz)
 ·exact ae (ju _ _ e) hz
theorem zcQ{l m:List Int}(hl:l.Nodup)(hs:∀z∈l,z∈m)(hz:m.length<=l.length):∀z∈m,z∈l:=by
 intro z aS;refine Classical.byContradiction λhn=>?_;have h3:(z::l).Nodup:=M8.mpr ⟨hn,hl⟩;have' this:_:=jb (U:=m) h3 λy hy=>by
  rcases Kw.mp hy with rfl | hy
  ·exact aS
  ·exact hs y hy
 rw[List.length_cons]at this;exact Uc this hz
theorem zeE{n:Nat}{sv B1:Nat->List Int}(h:∀j,j<n->(sv j).length<=(B1 j).length){j:Nat}(hj:j<n)(aC:(sv j).length<(B1 j).length)(hz:(B1 j).length<=15):Xs n B1<Xs n sv:=by
 refine Xr (λc hc=>?_) (K8.mpr hj) ?_
 ·have' this:_:=h c (K8.mp hc);exact Ud this
 ·exact Ue hz aC
noncomputable def gF(B:Bs)(p:Mp)(dD:List Addr)(sv:Nat->List Int):Prop:=∀(j:Nat) a,dD[j]? = some a->E2 λes t=>A3 (p a=some (.set es t)) (qm B es t) (∀z,z∈zn es↔z∈sv j)
theorem gF.other{p:Mp}{dD:List Addr}{sv:Nat->List Int}(H:gF B p dD sv){a:Addr}(ha:a∉dD)(c:jn):gF B (upd p a c) dD sv:=λj b hb=>by
 refine jP (H j b hb) λes' t' h1 h2 h3=>?_;exact⟨es',t',(zb _ _ (λe:b=a=>ha (e▸Kx hb))).trans h1,h2,h3⟩
noncomputable def RI(nds:List Nd)(f:Nat->Nat)(tb:Str->List Int)(fm:Nat->List Int)(U:List Int)(pH sv:Nat->List Int)(i:Nat):Prop:=A5
 (DI nds f tb fm U sv)
 (∀j z,z∈pH j->z∈sv j)
 (∀(n:Nat) nd z,n<i->nds[n]? = some nd->z∈tb nd.1->z∈sv (f n))
 (∀n z,n<i->z∈fm n->z∈sv (f n))
 (∀(n:Nat) nd k z,n<i->nds[n]? = some nd->k∈nd.2->z∈pH (f k)->z∈sv (f n))
theorem RI.add{f:Nat->Nat}{tb:Str->List Int}{fm:Nat->List Int}{U:List Int}{pH sv:Nat->List Int}{i:Nat}(I:RI nds f tb fm U pH sv i){c:Nat}{l m:List Int}(hl:∀z,z∈l↔z∈sv c\/z∈m)(h1:∀z∈m,qp nds f tb fm c z)(h2:∀z∈m,z∈U):RI nds f tb fm U pH (qa sv c l) i :=
 ⟨I.1.add hl h1 h2,λj z hz=>gE hl j z (I.2 j z hz),λn nd z a b d=>gE hl _ z (I.3 n nd z a b d),λn z a b=>gE hl _ z (I.4 n z a b),λn nd k z a b d e=>gE hl _ z (I.5 n nd k z a b d e)⟩
theorem RI.next(I:RI nds f tb fm U pH sv i)(bB:nds[i]? = some nd)(h1:∀z∈tb nd.1,z∈sv (f i))(h2:∀z∈fm i,z∈sv (f i))(h3:∀k∈nd.2,∀z∈pH (f k),z∈sv (f i)):RI nds f tb fm U pH sv (i+1):=by
 refine⟨I.1,I.2,λn bK z hn h hz=>?_,λn z hn hz=>?_,λn bK k z hn h hk hz=>?_⟩
 ·by_cases e:n=i
  ·subst e;rw[bB]at h;obtain rfl:=Option.some.inj h;exact h1 z hz
  ·exact I.3 n bK z (xB hn e) h hz
 ·by_cases e:n=i
  ·subst e;exact h2 z hz
  ·exact I.4 n z (xB hn e) hz
 ·by_cases e:n=i
  ·subst e;rw[bB]at h;obtain rfl:=Option.some.inj h;exact h3 k hk z hz
  ·exact I.5 n bK k z (xB hn e) h hk hz
theorem zcR{l m:List Int}(hl:l.Nodup)(hm:m.Nodup)(h:∀z,z∈l↔z∈m):l.length=m.length :=
 Ku (jb hl λz hz=>(h z).mp hz) (jb hm λz hz=>(h z).mpr hz)
theorem yX.snoc{k:Mp}{fv:List Value}{fl:List (List Int)}(h:yX k fv fl){a:Addr}{us:List Value}{l:List Int}(h1:k a=some (.tup us))(h2:IntsAre us l):yX k (fv++[.ref a]) (fl++[l]):=by
 have hl:=h.1;refine⟨by simp[hl],λi v hv=>?_⟩;by_cases e:i<fv.length
 ·rw[List.getElem?_append_left e]at hv;refine ae (zQ _ _ _ (jx e hl)) ?_;exact h.2 i v hv
 ·have h4:=(Kb.mp hv).1;rw[List.length_append,List.length_singleton]at h4;have' this:i=fv.length:=qZ h4 e;subst this;rw[List.getElem?_append_right (Nat.le_refl _),Nat.sub_self]at hv;obtain rfl:=Option.some.inj hv;refine ae hl ?_;rw[jJ];exact⟨a,us,rfl,h1,h2⟩
theorem zeF{ls:List Nat}{U:List Int}(R:zC 1 A)(Ib:BI nds)(aH:S.m no=some (.list (as.map .ref)))(hN:jl S.k as nds)(oG:S.k lc=some (.list lv))(hI:IntsAre lv (ls.map Int.ofNat))(Aw:ls.length=nds.length)(hle:∀i,lf ls i<=i)(rW:S.k fa=some (.list fv))(hF:yX S.k fv fl)(Ax:fl.length<=nds.length)(hm:S.m mk=some (.dict es))(T:yL B S.k es kvs tb)(hU:∀x,∀z∈tb x,z∈U)(cI:∀l∈fl,∀z∈l,z∈U)(hz:U.length<=15)(h:∀c k' out fJ,S.k.le k'->k' c=some (.list out)->yX k' out fJ->fJ.length=nds.length->(∀i,i<nds.length->(fJ.getD i []).Pairwise (· < ·)/\∀z,z∈fJ.getD i []↔qp nds (lf ls) tb (λn=>fl.getD n []) (lf ls i) z)->Q (.ref c) (S.to .k k')):
  V B A S (call (.ref 520) [.ref no,.ref lc,.ref fa,.ref mk]) Q:=by
 refine zL (f:=520) (binds:=[("nodes",.ref no),("least",.ref lc),("former",.ref fa),("table",.ref mk)]) (n:=0) (by delta Bs.K;k_is) (by kernel_rfl) R rfl (by rfl) (by kernel_rfl) ?_;intro A' env R' en;dsimp only at en;have small:=Ib.1;have dj:=hN.1;have' hu:A'.units<cLine:=R'.u;w_fin;refine qS en (by rfl) ?_ ((g9 en).trans (by rfl))
 let Inv1:(Unit)->Nat->St->List Value->Prop:=λj i S' l=>∃p',A3 (S'=⟨S.k,S.b,S.u,S.l,S.h,S.v,p',S.m⟩) (S.p.le p') (∃bA:List Addr,A4 (l=bA.map .ref) (bA.length=i) (qI B p' bA (λZZ=>[])) (∀a∈bA,S.p a=none))
 refine zG .k (λj:Unit=>(zf B no (as.map .ref)).src) []
  Inv1 en (by kernel_rfl) trivial R'.3 (λZZ=>by refine(?_:(as.map Value.ref).length<=_);rw[List.length_map];exact z9 dj small rfl) (zY (λj:Unit=>zf B no (as.map .ref)) ?_) (λj env2 bq=>zr _ bq (by rfl) (.inr (by rfl))) ?_ ?_ ?_ ?_
 ·w_fin;exact⟨(),rfl,kZ aH,rfl,S.p,rfl,Mp.le_refl _,[],rfl,rfl,⟨L3,λi a h=>by injection h⟩,(λ_ h=>absurd h Lr)⟩
 ·rintro j i S' l ⟨p',rfl,_⟩;exact kZ aH
 ·intro j i S' vs' bg bZ;refine zJ bZ λbo v ZZ bG=>?_;obtain rfl:=bo;obtain rfl:=bG;exact Vs.Sub.set rfl
 ·rintro j env2 bq i S' l vs' bg aQ ⟨p',rfl,oI,bA,rfl,eG,hS,nK⟩ fS;refine zJ fS λcj v hv eB=>?_;obtain rfl:=cj;obtain rfl:=eB;dsimp only[jA,zi];refine z7 rfl ?_;w_fin;o_unpack Xl;refine ao (zeb (r:=.p) λa ha I0=>?_);have iD:p' a=none:=ha .p;o_reads;have Nk:=oI.none iD;have Ay:a∉bA:=λhm=>by
   refine aB (K9.mp hm) λq hq=>?_;obtain⟨es',t',h1,_⟩:=hS.2 q a hq;rw[iD]at h1;injection h1
  refine⟨Vs.Sub.refl _,_,rfl,Mp.bc oI Nk _,bA++[a],ae K2 rfl,ae Ki (ae Kj (ae eG rfl)),⟨?_,λq b hb=>?_⟩,λb hb=>?_⟩
  ·rw[List.nodup_append];exact⟨hS.1,(Ll _ _),λx hx y hy e=>Ay (aR (Kf.mp hy) (aR e hx))⟩
  ·by_cases e:q<bA.length
   ·rw[List.getElem?_append_left e]at hb;exact(hS.other Ay _).2 q b hb
   ·have h4:=(Kb.mp hb).1;rw[List.length_append,List.length_singleton]at h4;have' this:q=bA.length:=Zk h4 eG e;subst this;rw[List.getElem?_append_right (Nat.le_refl _),Nat.sub_self]at hb;obtain rfl:=Option.some.inj hb;exact⟨[],_,za _ _ _,I0,rfl⟩
  ·rcases Ko.mp hb with hb | hb
   ·exact nK b hb
   ·exact ae (Kf.mp hb) Nk
 ·rintro j S' l D ⟨p1,rfl,iV,bA,rfl,Az,uL,nK⟩ di;have cY:bA.length=nds.length:=by
   have' this:(zf B no (as.map .ref)).src.n=nds.length:=by refine(?_:(as.map Value.ref).length=_);rw[List.length_map];exact dj
   exact Ug Az this
  have' cm:S.k D=none:=di .k;o_reads;refine ae (show zi ([("nodes",.ref no),("least",.ref lc),("former",.ref fa),("table",.ref mk)]:Vs) "found" (.ref D)=([("nodes",.ref no),("least",.ref lc),("former",.ref fa),("table",.ref mk),("found",.ref D)]:Vs) from rfl) ?_;have' aU:S.k.le (upd S.k D (.list (bA.map .ref))):=Mp.av cm;have' hD:_:=za S.k D (.list (bA.map .ref));revert aU;revert hD;refine gen (upd S.k D (.list (bA.map .ref))) λk1=>?_;intro hD aU;w_fin
  let Inv2:Nat->Vs->St->Prop:=λm vs' S'=>E4 λk p sv ov=>A7 (S'=⟨k,S.b,S.u,S.l,S.h,S.v,p,S.m⟩) (k1.le k) (S.p.le p) (qI B p bA sv) (DI nds (lf ls) tb (λn=>fl.getD n []) U sv) ((ov=false/\m=Xs nds.length sv+1)\/(ov=true/\m=0/\ve nds (lf ls) tb (λn=>fl.getD n []) sv)) (Vs.Sub [("nodes",.ref no),("least",.ref lc),("former",.ref fa),("table",.ref mk),("found",.ref D),("is_over",.bool ov)] vs')
  refine wx Inv2 _ ⟨k1,p1,λZZ=>[],false,rfl,Mp.le_refl _,iV,uL,⟨λi z h=>(by cases h),λi z h=>(by cases h)⟩,.inl ⟨rfl,rfl⟩,Vs.Sub.refl _⟩ ?_;rintro m vs' S' ⟨k,p,sv,ov,rfl,le,oI,hS,B2,hov,bV⟩;refine jT bV ?_;have B3:=le _ _ hD;have bU:=Mp.le_trans aU le;refine xj ?_;refine qB ?_;w_fin;refine zc ?_;rcases hov with ⟨rfl,rfl⟩ | ⟨rfl,rfl,kE⟩
  ·refine z7 rfl ?_;have' m9:∀a∈bA,∀{Fg:Mp},Fg a=none->S.p.le Fg->S.p a=none:=λa ha Fg ZZ ZZ=>nK a ha;w_fin
   let iN:(Unit)->Nat->St->List Value->Prop:=λj i S' l=>∃p',A4 (S'=⟨k,S.b,S.u,S.l,S.h,S.v,p',S.m⟩) (S.p.le p') (qI B p' bA sv) (∃dD:List Addr,A4 (l=dD.map .ref) (dD.length=i) (gF B p' dD sv) (∀a∈dD,a∉bA))
   refine qG .k (λj:Unit=>(zf B D (bA.map .ref)).src) []
    iN en (by kernel_rfl) (by kernel_rfl) trivial R'.3 (λZZ=>by refine(?_:(bA.map Value.ref).length<=_);rw[List.length_map];exact z9 cY small rfl) (zY (λj:Unit=>zf B D (bA.map .ref)) ?_) (λj env2 bq=>zr _ bq (by rfl) (.inr (by rfl))) ?_ ?_ ?_ ?_
   ·w_fin;exact⟨(),rfl,gk B3,rfl,p,rfl,oI,hS,[],rfl,rfl,λj a h=>(by injection h),(λ_ h=>absurd h Lr)⟩
   ·rintro j i S' l ⟨p',rfl,_⟩;exact gk B3
   ·intro j i S' vs' bg og;refine zJ og λiI v ZZ eC=>?_;obtain rfl:=iI;obtain rfl:=eC;exact Vs.Sub.set rfl
   ·rintro j env2 bq i S' l vs' bg aQ ⟨p',rfl,AA,tI,dD,rfl,sJ,hA,oN⟩ mY;refine zJ mY λfc v hv mQ=>?_;obtain rfl:=fc;obtain rfl:=mQ;have aA:i<bA.length:=by have' this:i<(bA.map Value.ref).length:=aQ;rw[List.length_map]at this;exact this
    have' fY:v = .ref bA[i]:=by
     have' this:(bA.map Value.ref)[i]? = some v:=hv;rw[List.getElem?_map,List.getElem?_eq_getElem aA]at this;exact(Option.some.inj this).symm
    subst fY;refine jP (tI.2 i _ (Ka aA)) λcq t1 s1 s2 s3=>?_;dsimp only[jA,zi];refine z7 rfl ?_;w_fin;o_unpack Xl;refine ao (zcz (r:=.p) (U:=U) R'.3 (kY s1) s2 (λz hz=>B2.2 i z (by rw[s3]at hz;exact hz)) hz λa eu t2 ha I2 nN=>?_);have iD:p' a=none:=ha .p;o_reads;have Ay:a∉bA:=λhm=>by
     refine aB (K9.mp hm) λq hq=>?_;obtain⟨es',t',h1,_⟩:=tI.2 q a hq;rw[iD]at h1;injection h1
    have' Fh:a∉dD:=λhm=>by
     refine aB (K9.mp hm) λq hq=>?_;obtain⟨es',t',h1,_⟩:=hA q a hq;rw[iD]at h1;injection h1
    refine⟨Vs.Sub.refl _,_,rfl,Mp.bc AA (AA.none iD) _,tI.other Ay _,dD++[a],ae K2 rfl,ae Ki (ae Kj (ae sJ rfl)),λq b hb=>?_,λb hb=>?_⟩
    ·by_cases e:q<dD.length
     ·rw[List.getElem?_append_left e]at hb;exact hA.other Fh _ q b hb
     ·have h4:=(Kb.mp hb).1;rw[List.length_append,List.length_singleton]at h4;have' this:q=dD.length:=Zk h4 sJ e;subst this;rw[List.getElem?_append_right (Nat.le_refl _),Nat.sub_self]at hb;obtain rfl:=Option.some.inj hb;exact⟨eu,t2,za _ _ _,I2,λz=>by rewrite [nN];refine ae s3 ?_;refine ae sJ ?_;rfl⟩
    ·rcases Ko.mp hb with hb | hb
     ·exact oN b hb
     ·exact ae (Kf.mp hb) Ay
   ·rintro j S' l AD ⟨p2,rfl,nz,hS2,dD,rfl,Fi,hA2,oN⟩ AB;have pI:dD.length=nds.length:=by
     have' this:(zf B D (bA.map .ref)).src.n=bA.length:=by refine(?_:(bA.map Value.ref).length=_);rw[List.length_map]
     exact Uh Fi this cY
    have' sL:k AD=none:=AB .k;o_reads;refine ae (show zi ([("nodes",.ref no),("least",.ref lc),("former",.ref fa),("table",.ref mk),("found",.ref D),("is_over",.bool false)]:Vs) "ahead" (.ref AD)=([("nodes",.ref no),("least",.ref lc),("former",.ref fa),("table",.ref mk),("found",.ref D),("is_over",.bool false),("ahead",.ref AD)]:Vs) from rfl) ?_;have aV:k.le (upd k AD (.list (dD.map .ref))):=Mp.av sL;have' Fj:_:=za k AD (.list (dD.map .ref));revert aV;revert Fj;refine gen (upd k AD (.list (dD.map .ref))) λk3=>?_;intro Fj aV;have' cQ:_:=Mp.le_trans bU aV;have Nm:=aV _ _ B3;w_fin
    let sE:Nat->Vs->St->Prop:=λi vs' S'=>E3 λk6 p6 dw=>A7 (S'=⟨k6,S.b,S.u,S.l,S.h,S.v,p6,S.m⟩) (k3.le k6) (S.p.le p6) (qI B p6 bA dw) (gF B p6 dD sv) (RI nds (lf ls) tb (λn=>fl.getD n []) U sv dw i) (Vs.Sub [("nodes",.ref no),("least",.ref lc),("former",.ref fa),("table",.ref mk),("found",.ref D),("is_over",.bool false),("ahead",.ref AD)] vs')
    refine IU (xm B no (as.map .ref)) sE R'.3 (J4 ?_) (Xe R'.3 en (by rfl) (by rfl) (.inl rfl)) ?_ ?_ ?_
    ·w_fin;o_unpack xY;refine ao (ZX (by w_left) λe it o aO Aj oM ho=>?_);exact⟨e,it,o,_,rfl,aO,Aj,oM,ho,rfl,k3,p2,sv,rfl,Mp.le_refl _,nz,hS2,hA2,⟨B2,λZZ ZZ h=>h,λn nd z h=>absurd h (K4 _),λn z h=>absurd h (K4 _),λn nd k z h=>absurd h (K4 _)⟩,Vs.Sub.refl _⟩
    ·rintro i vs' S' ⟨k6,p6,dw,rfl,_⟩;exact kZ aH
    ·rintro i vs' S' cW bg aQ ⟨k6,p6,dw,rfl,aZ,eF,sM,Fl,fj,cG⟩ r4;refine JW r4 λiP dH w hw mB=>?_;obtain rfl:=iP;obtain rfl:=mB;have aA:i<as.length:=by have' this:i<(as.map Value.ref).length:=aQ;rw[List.length_map]at this;exact this
     have' fH:w = .ref as[i]:=by rw[List.getElem?_map,List.getElem?_eq_getElem aA]at hw;exact(Option.some.inj hw).symm
     subst fH;refine Cp (as[i]) λb hb=>?_;have kN:i<nds.length:=jx aA dj;have' Al:_:=hN.2 i b _ (by refine ae (Ka aA) ?_;refine ae hb ?_;rfl) (Ka kN);have bB:nds[i]? = some nds[i]:=Ka kN;generalize nds[i]=nd at Al bB;have zk:=Ib.4 nd (Kx bB);have' kk:∀j∈nd.2,j<nds.length:=λj hj=>by have' this:_:=Ib.3 i nd bB j hj;exact Ui this aA dj
     have' sj:_:=Ib.2 nd (Kx bB);have cP:=Mp.le_trans cQ aZ;refine gs (Al.mono cP) λvb EJ tb' rb EK An=>?_;subst EK;have nP:=An.length;rw[List.length_map]at nP;have Nn:=hle i;have kQ:lf ls i<bA.length:=Uj Nn cY aA dj;refine jP (sM.2 _ _ (Ka kQ)) λFm t6 s1 s2 s3=>?_;have sN:bA[lf ls i]∈bA:=Ky kQ;have sO:bA[lf ls i]? = some bA[lf ls i]:=Ka kQ;have' nB:(bA.map Value.ref)[lf ls i]? = some (.ref bA[lf ls i]):=by refine ae Lf ?_;refine ae sO ?_;rfl
     generalize bA[lf ls i]=ah at s1 sN sO nB;have sP:=nK ah sN;have sQ:ah∉dD:=λhm=>oN _ hm sN;refine aB (xA hI (i:=i) (Iu aA Aw dj)) λt11 Fn=>?_;refine jT (vs':=[("nodes",.ref no),("least",.ref lc),("former",.ref fa),("table",.ref mk),("found",.ref D),("is_over",.bool false),("ahead",.ref AD),("n",.int (i:Nat) dH),("node",.ref b)]) (λy u hy=>?_) ?_
     ·rw[zw,zw];have e2:zo [(("nodes":Str),Value.ref no),("least",.ref lc),("former",.ref fa),("table",.ref mk),("found",.ref D),("is_over",.bool false),("ahead",.ref AD),("n",.int (i:Nat) dH),("node",.ref b)] y=zo (zi (zi [("nodes",.ref no),("least",.ref lc),("former",.ref fa),("table",.ref mk),("found",.ref D),("is_over",.bool false),("ahead",.ref AD)] "n" (.int (i:Nat) dH)) "node" (.ref b)) y:=rfl;rw[e2,zw,zw]at hy;split
      ·rename_i e;rw[if_pos e]at hy;exact hy
      ·rename_i e;rw[if_neg e]at hy;split
       ·rename_i e;rw[if_pos e]at hy;exact hy
       ·rename_i e;rw[if_neg e]at hy;exact cG y u hy
     have' ib:∀v,Vs.Sub [("nodes",.ref no),("least",.ref lc),("former",.ref fa),("table",.ref mk),("found",.ref D),("is_over",.bool false),("ahead",.ref AD)] [("nodes",.ref no),("least",.ref lc),("former",.ref fa),("table",.ref mk),("found",.ref D),("is_over",.bool false),("ahead",.ref AD),("n",.int (i:Nat) dH),("node",.ref b),("home",v)]:=λv y u hy=>by
      have' e1:_:=(Vs.Sub.set (vs:=[("nodes",.ref no),("least",.ref lc),("former",.ref fa),("table",.ref mk),("found",.ref D),("is_over",.bool false),("ahead",.ref AD)]) (x:="n") (v:=.int (i:Nat) dH) rfl) y u hy;have' e2:_:=(Vs.Sub.set (vs:=[("nodes",.ref no),("least",.ref lc),("former",.ref fa),("table",.ref mk),("found",.ref D),("is_over",.bool false),("ahead",.ref AD),("n",.int (i:Nat) dH)]) (x:="node") (v:=.ref b) rfl) y u e1;exact(Vs.Sub.set (vs:=[("nodes",.ref no),("least",.ref lc),("former",.ref fa),("table",.ref mk),("found",.ref D),("is_over",.bool false),("ahead",.ref AD),("n",.int (i:Nat) dH),("node",.ref b)]) (x:="home") (v:=v) rfl) y u e2
     have w1:=cP _ _ oG;have w2:=aZ _ _ Nm;w_fin;refine ao (zm (by w_left) Fn ?_ (df aA (dj▸small)));w_fin;refine ao (zm (by w_left) nB ?_ (df (K1 Nn aA) (dj▸small)));w_fin;o_unpack YK;o_unpack Z6;refine ao (qq (k:=0) (v:=.str nd.1 tb') (by w_left) rfl ?_ (by decide));w_fin;refine zN ?_;w_fin;refine ze (Kt _) λc0 k7 bO fU ZZ=>?_;dsimp only[St.put,St.to,St.get]at bO fU |-;w_fin;refine ao (ZV (k:=nd.1) (by w_left) T.1 (sk _ _) ?_);have kS:=Mp.le_trans cP bO;obtain⟨a,us,e1,e2,e3⟩:∃a us,(valueAt kvs nd.1).getD (.ref c0) = .ref a/\k7 a=some (.tup us)/\IntsAre us (tb nd.1):=by
      rcases T.3 nd.1 sj with ⟨q1,q2⟩ | ⟨a,us,q1,q2,q3⟩
      ·exact ae q1 (ae q2 ⟨c0,[],rfl,fU,.nil⟩)
      ·exact ae q1 ⟨a,us,rfl,kS _ _ q2,q3⟩
     refine ae e1 ?_;w_fin;have' hU6:∀z∈zn Fm,z∈U:=λz aS=>fj.1.2 _ z (by rw[s3]at aS;exact aS);refine ao (wJ (r:=.p) (U:=U) R'.3 (gk e2) e3 s1 s2 (hU nd.1) hU6 hz λoO t7 I7 sf=>?_);o_reads;have' S7:_:=sM.put sO I7;have' A7:_:=Fl.other sQ (.set oO t7);rw[s3]at sf;have Fo:=fj.add sf (λz aS=>qp.table bB aS) (hU nd.1);have Fp:=za p6 ah (.set oO t7);have' iW:_:=Mp.bc eF sP (.set oO t7);have n7:zn oO=qa dw (lf ls i) (zn oO) (lf ls i):=(zz _ _ _).symm;have' d7:∀z∈tb nd.1,z∈qa dw (lf ls i) (zn oO) (lf ls i):=λz aS=>by rw[zz];exact(sf z).mpr (.inr aS)
     generalize qa dw (lf ls i) (zn oO)=Fq at S7 Fo n7 d7;revert S7;revert A7;revert Fp;revert iW;refine gen (upd p6 ah (.set oO t7)) λp7=>?_;intro iW Fp A7 S7;clear sf;w_fin;o_unpack YK;have hfk:=kS _ _ rW;have' hFk:_:=hF.mono kS;refine Zp (Q:=λv vs' S'=>vs'=([("nodes",.ref no),("least",.ref lc),("former",.ref fa),("table",.ref mk),("found",.ref D),("is_over",.bool false),("ahead",.ref AD),("n",.int (i:Nat) dH),("node",.ref b),("home",.ref ah)]:Vs)/\∃a9 k9 nM,v = .ref a9/\S'=⟨k9,S.b,S.u,S.l,S.h,S.v,p7,S.m⟩/\k7.le k9/\k9 a9=some (.tup nM)/\IntsAre nM (fl.getD i [])) ?_ ?_
     ·refine wu ?_;w_fin;o_unpack yo;refine ao (zI (by w_left) (by refine ae hF.1 ?_;exact Cv Ax small) λt12=>?_);refine ae hF.1 ?_;refine ao (xa ?_);refine zc ?_;by_cases pJ:i<fl.length
      ·have' cc:decide (((i:Nat):Int)<((fl.length:Nat):Int))=true:=decide_eq_true (CC pJ);refine z7 cc ?_;have tS:i<fv.length:=ae hF.1 pJ;refine jg (hFk.2 i _ (Ka tS)) λa9 nM q1 q2 q3=>?_;have' q4:fv[i]? = some (.ref a9):=by refine ae (Ka tS) ?_;refine ae q1 ?_;rfl
       w_fin;refine ao (zm (by w_left) q4 ?_ (df aA (dj▸small)));exact⟨rfl,a9,k7,nM,rfl,rfl,Mp.le_refl _,q2,q3⟩
      ·have' cc:decide (((i:Nat):Int)<((fl.length:Nat):Int))=false:=decide_eq_false (Uk pJ);refine jf cc ?_;refine zN ?_;w_fin;refine ze (Kt _) λc9 k9 cL se ZZ=>?_;dsimp only[St.put,St.to,St.get]at cL se |-;refine⟨rfl,c9,k9,[],rfl,rfl,cL,se,?_⟩;refine ae (gB _ _ (gZ pJ)) ?_;exact .nil
     ·rintro v vs' S' ⟨rfl,a9,k9,nM,rfl,rfl,cL,q2,q3⟩;have Np:∀z∈fl.getD i [],z∈U:=λz aS=>by
       by_cases pJ:i<fl.length
       ·rw[List.getD_eq_getElem?_getD,List.getElem?_eq_getElem pJ]at aS;exact cI _ (Ky pJ) z aS
       ·rw[gB _ _ (gZ pJ)]at aS;cases aS
      have' hU7:∀z∈zn oO,z∈U:=λz aS=>Fo.1.2 _ z (by rw[n7]at aS;exact aS);w_fin;refine ao (wJ (r:=.p) (U:=U) R'.3 (gk q2) q3 Fp I7 Np hU7 hz λsR t8 I8 B4=>?_);o_reads;have' S8:_:=S7.put sO I8;have' A8:_:=A7.other sQ (.set sR t8);rw[n7]at B4;have' Nq:_:=Fo.add B4 (λz aS=>qp.dT kN aS) Np;have' Nr:_:=za p7 ah (.set sR t8);have' sS:_:=Mp.bc iW sP (.set sR t8);have' d8:∀z∈tb nd.1,z∈qa Fq (lf ls i) (zn sR) (lf ls i):=λz aS=>by rw[zz];exact(B4 z).mpr (.inl (d7 z aS))
      have' f8:∀z∈fl.getD i [],z∈qa Fq (lf ls i) (zn sR) (lf ls i):=λz aS=>by rw[zz];exact(B4 z).mpr (.inr aS)
      generalize qa Fq (lf ls i) (zn sR)=sv8 at S8 Nq d8 f8;revert S8;revert A8;revert Nr;revert sS;refine gen (upd p7 ah (.set sR t8)) λp8=>?_;intro sS Nr A8 S8;have AF:=Mp.le_trans bO cL;have' x1:_:=cL _ _ (bO _ _ w1);have' x2:_:=cL _ _ (bO _ _ w2);w_fin
      let sG:(Addr)->Nat->Vs->St->Prop:=λjj q vs' S'=>E3 λlK oQ eH=>CX (S'=⟨lK,S.b,S.u,S.l,S.h,S.v,oQ,S.m⟩) (k9.le lK) (lK jj=some (.tup rb)) (S.p.le oQ) (qI B oQ bA eH) (gF B oQ dD sv) (RI nds (lf ls) tb (λn=>fl.getD n []) U sv eH i) (∀z∈tb nd.1,z∈eH (lf ls i)) (∀z∈fl.getD i [],z∈eH (lf ls i)) (∀q',q'<q->∀z∈sv (lf ls (nd.2.getD q' 0)),z∈eH (lf ls i)) (Vs.Sub [("nodes",.ref no),("least",.ref lc),("former",.ref fa),("table",.ref mk),("found",.ref D),("is_over",.bool false),("ahead",.ref AD),("n",.int (i:Nat) dH),("node",.ref b),("home",.ref ah)] vs')
      refine qi (λjj:Addr=>(jp B jj rb).src) sG R'.3 (zY (λjj:Addr=>jp B jj rb) ?_) (λjj=>zr _ en (by rfl) (.inl rfl)) ?_ ?_ ?_
      ·refine yl (by decide) ?_;w_fin;refine⟨b,_,rfl,gk (AF _ _ EJ),(Kv _),by simp;exact z9 nP zk rfl,λNf lK dm ic ZZ=>?_⟩;exact⟨Nf,rfl,gk ic,lK,p8,sv8,rfl,dm,ic,sS,S8,A8,Nq,d8,f8,λq' dr=>absurd dr (K4 _),Vs.Sub.refl _⟩
      ·rintro jj q vs' S' ⟨lK,oQ,eH,rfl,dm,ic,_⟩;exact gk ic
      ·rintro jj q vs' S' cW bg iU ⟨lK,oQ,eH,rfl,dm,ic,kF,tX,pO,eI,B5,B6,AG,iX⟩ r5;refine zJ r5 λmR v hv iL=>?_;obtain rfl:=mR;obtain rfl:=iL;have bP:q<nd.2.length:=by have' this:q<rb.length:=iU;exact jx this nP
       refine aB (jk An bP) λkr Fs=>?_;have' ev:v = .int (nd.2.getD q 0:Nat) kr:=Option.some.inj (hv.symm.trans Fs);subst ev;have B7:nd.2.getD q 0∈nd.2:=by refine ae Kh ?_;refine ae (Ka bP) ?_;exact Ky bP
       revert B7;refine Cp (nd.2.getD q 0) λkd pE=>?_;intro B7;have kK:=kk kd B7;have Nt:=hle kd;refine aB (xA hI (i:=kd) (Io kK Aw pE)) λt14 Ft=>?_;have AH:lf ls kd<bA.length:=Ul Nt cY kK pE;refine jP (tX.2 _ _ (Ka AH)) λek tk r1 r2 r3=>?_;have Fu:bA[lf ls kd]? = some bA[lf ls kd]:=Ka AH;have kG:(bA.map Value.ref)[lf ls kd]? = some (.ref bA[lf ls kd]):=by refine ae Lf ?_;refine ae Fu ?_;rfl
       generalize bA[lf ls kd]=bh at r1 Fu kG;refine jP (tX.2 _ _ sO) λeh th o1 o2 o3=>?_;refine jT (vs':=[("nodes",.ref no),("least",.ref lc),("former",.ref fa),("table",.ref mk),("found",.ref D),("is_over",.bool false),("ahead",.ref AD),("n",.int (i:Nat) dH),("node",.ref b),("home",.ref ah),("kid",.int (kd:Nat) kr)]) (λy u hy=>?_) ?_
       ·rw[zw];by_cases e:y="kid"
        ·subst e;refine ae (if_pos rfl) ?_;exact hy
        ·refine ae (if_neg e) ?_;refine iX y u ?_;have' e2:zo [(("nodes":Str),Value.ref no),("least",.ref lc),("former",.ref fa),("table",.ref mk),("found",.ref D),("is_over",.bool false),("ahead",.ref AD),("n",.int (i:Nat) dH),("node",.ref b),("home",.ref ah),("kid",.int (kd:Nat) kr)] y=zo (zi [("nodes",.ref no),("least",.ref lc),("former",.ref fa),("table",.ref mk),("found",.ref D),("is_over",.bool false),("ahead",.ref AD),("n",.int (i:Nat) dH),("node",.ref b),("home",.ref ah)] "kid" (.int (kd:Nat) kr)) y:=rfl;rw[e2,zw,if_neg e]at hy;exact hy
       have nC:Vs.Sub [("nodes",.ref no),("least",.ref lc),("former",.ref fa),("table",.ref mk),("found",.ref D),("is_over",.bool false),("ahead",.ref AD),("n",.int (i:Nat) dH),("node",.ref b),("home",.ref ah)] [("nodes",.ref no),("least",.ref lc),("former",.ref fa),("table",.ref mk),("found",.ref D),("is_over",.bool false),("ahead",.ref AD),("n",.int (i:Nat) dH),("node",.ref b),("home",.ref ah),("kid",.int (kd:Nat) kr)] :=
        Vs.Sub.set (vs:=[("nodes",.ref no),("least",.ref lc),("former",.ref fa),("table",.ref mk),("found",.ref D),("is_over",.bool false),("ahead",.ref AD),("n",.int (i:Nat) dH),("node",.ref b),("home",.ref ah)]) (x:="kid") (v:=.int (kd:Nat) kr) rfl
       have' y1:_:=dm _ _ x1;have' y2:_:=dm _ _ x2;w_fin;o_unpack YK;refine ao (zm (by w_left) Ft ?_ (df (pE▸kK) small));w_fin;refine ao (zm (by w_left) kG ?_ (df (K1 Nt kK) small));w_fin;by_cases heq:ah=bh
       ·subst heq;have' Fv:lf ls i=lf ls kd:=(Mx kQ hS.1).mp (sO.trans Fu.symm);refine ao (Qt (kY r1) r2 ?_);w_fin;refine⟨lK,oQ,eH,rfl,dm,ic,kF,tX,pO,eI,B5,B6,λq' dr z aS=>?_,nC⟩;by_cases e:q'=q
        ·subst e;rw[pE,<-Fv]at aS;exact eI.2 _ z aS
        ·exact AG q' (Iv dr bP zk e) z aS
       ·have' hUh:∀z∈zn eh,z∈U:=λz aS=>eI.1.2 _ z (by rw[o3]at aS;exact aS);have' hUk:∀z∈zn ek,z∈U:=λz aS=>eI.1.2 _ z (by rw[r3]at aS;exact aS);refine ao (XY (r:=.p) (U:=U) (kY r1) o1 heq o2 r2 hUh hUk hz λes11 t11' I11 kV=>?_);o_reads;w_fin;rw[o3,r3]at kV;have' Fw:_:=eI.add kV (λz aS=>qp.u0 bB B7 (eI.1.1 _ z aS)) (λz aS=>eI.1.2 _ z aS);refine⟨lK,_,_,rfl,dm,ic,Mp.bc kF sP _,tX.put sO I11,pO.other sQ _,Fw,λz aS=>?_,λz aS=>?_,λq' dr z aS=>?_,nC⟩
        ·rw[zz];exact(kV z).mpr (.inl (B5 z aS))
        ·rw[zz];exact(kV z).mpr (.inl (B6 z aS))
        ·rw[zz];by_cases e:q'=q
         ·subst e;rw[pE]at aS;exact(kV z).mpr (.inr (eI.2 _ z aS))
         ·exact(kV z).mpr (.inl (AG q' (Iv dr bP zk e) z aS))
      ·rintro jj vs' S' ⟨lK,oQ,eH,rfl,dm,ic,kF,tX,pO,eI,B5,B6,AG,iX⟩;have' e13:(jp B jj rb).src.n=nd.2.length:=nP;rw[e13]at AG;w_fin;refine⟨lK,oQ,eH,rfl,Mp.le_trans aZ (Mp.le_trans AF dm),kF,tX,pO,eI.next bB B5 B6 (λkd hkd z aS=>?_),λy u hy=>iX y u (ib _ y u hy)⟩;refine aB (K9.mp hkd) λq' dr=>?_;have' fW:_:=(Kb.mp dr).1;refine AG q' fW z ?_;refine ae Kh ?_;refine ae dr ?_;exact aS
    ·rintro vs' S' ⟨k6,p6,dw,rfl,aZ,eF,sM,Fl,fj,cG⟩;have Ff:(xm B no (as.map .ref)).n=nds.length:=by
      refine(?_:(as.map Value.ref).length=_);rw[List.length_map];exact dj
     rw[Ff]at fj;w_means;refine jT cG ?_;have' hD6:_:=aZ _ _ Nm;have' Fx:_:=aZ _ _ Fj;have sT:∀j,j<nds.length->(sv j).Nodup:=λj hj=>by
      refine jP (hS.2 j _ (Ka (by exact aM hj cY:j<bA.length))) λcq t1 ZZ s2 s3=>?_;exact aR s3 s2.3
     have' hO:∀j,j<nds.length->(dw j).Nodup:=λj hj=>by
      refine jP (sM.2 j _ (Ka (by exact aM hj cY:j<bA.length))) λcq t1 ZZ s2 s3=>?_;exact aR s3 s2.3
     w_fin;refine ao (Ym (n:=nds.length) (e:=λj=>(sv j).length == (dw j).length&&decide (∀z∈sv j,z∈dw j)) (by have' this:_:=R'.2;refine(?_:_<9900);exact CT this) (gk Fx) (gk hD6) (by rw[List.length_map];exact Iw pI) (by rw[List.length_map];exact Iw cY) (λj hj=>?_) ?_)
     ·have Fy:j<dD.length:=aM hj pI;have Fz:j<bA.length:=aM hj cY;refine jP (Fl j _ (Ka Fy)) λcq t1 s1 s2 s3=>?_;refine jP (sM.2 j _ (Ka Fz)) λeu t2 r1 r2 r3=>?_;refine⟨dD[j],bA[j],cq,eu,t1,t2,by refine ae Lf ?_;refine ae (Ka Fy) ?_;rfl,by refine ae Lf ?_;refine ae (Ka Fz) ?_;rfl,λe=>oN _ (Ky Fy) (e▸Ky Fz),kY s1,kY r1,s2,r2,?_⟩;have' l1:cq.length=(sv j).length:=by rw[<-zP];exact zcR s2.3 (sT j hj) s3
      have' l2:eu.length=(dw j).length:=by rewrite [<-zP];refine ae r3 ?_;rfl
      refine ae l1 ?_;refine ae l2 ?_
      congr 1
      refine decide_eq_decide.mpr ⟨λh z aS=>?_,λh z aS=>?_⟩
      ·exact ae r3 (h z ((s3 z).mp aS))
      ·exact aR r3 (h z ((s3 z).mpr aS))
     ·have bN:((List.range nds.length).all λj=>(sv j).length == (dw j).length&&decide (∀z∈sv j,z∈dw j))=false->Xs nds.length dw<Xs nds.length sv:=λhf=>by
       rw[List.all_eq_false]at hf;refine zt hf λj hj aO=>?_;have FA:=K8.mp hj;have AI:∀j,j<nds.length->(sv j).length<=(dw j).length:=λj hj=>jb (sT j hj) (fj.2 j);refine zeE AI FA ?_ (by have' this:_:=jb (U:=U) (hO j FA) (fj.1.2 j);exact bX this hz);have' h1:_:=AI j FA;have' h2:(sv j).length≠(dw j).length:=λe=>aO (by refine ae e ?_;refine ae (decide_eq_true (fj.2 j)) ?_;simp);exact Um h2 h1
      have kE:((List.range nds.length).all λj=>(sv j).length == (dw j).length&&decide (∀z∈sv j,z∈dw j))=true->ve nds (lf ls) tb (λn=>fl.getD n []) dw:=λht=>by
       rw[List.all_eq_true]at ht;have' back:∀j,j<nds.length->∀z∈dw j,z∈sv j:=λj hj=>by
        have' this:_:=ht j (K8.mpr hj);rw[Bool.and_eq_true,beq_iff_eq]at this;exact zcQ (sT j hj) (fj.2 j) (Kc this.1.symm)
       refine⟨λn nd x h1 h2=>fj.3 n nd x (Kb.mp h1).1 h1 h2,λn x h1 h2=>fj.4 n x h1 h2,λn nd kk x h1 h2 h3=>?_⟩;have hn:=(Kb.mp h1).1;have' hk:_:=Ib.3 n nd h1 kk h2;have' kK:_:=hle kk;exact fj.5 n nd kk x hn h1 h2 (back _ (Un kK hk hn) x h3)
      generalize bS:((List.range nds.length).all λj=>(sv j).length == (dw j).length&&decide (∀z∈sv j,z∈dw j))=bb at bN kE;have pK:Vs.Sub [("nodes",.ref no),("least",.ref lc),("former",.ref fa),("table",.ref mk),("found",.ref D),("is_over",.bool bb)] (zi ([("nodes",.ref no),("least",.ref lc),("former",.ref fa),("table",.ref mk),("found",.ref D),("is_over",.bool false),("ahead",.ref AD)]:Vs) "is_over" (.bool bb)) :=
       Vs.Sub.set (vs:=[("nodes",.ref no),("least",.ref lc),("former",.ref fa),("table",.ref mk),("found",.ref D),("is_over",.bool bb)]) (x:="ahead") (v:=.ref AD) rfl
      w_fin;cases bb with
      | true=>exact⟨0,by exact Uo,k6,p6,dw,true,rfl,Mp.le_trans le (Mp.le_trans aV aZ),eF,sM,fj.1,.inr ⟨rfl,rfl,kE rfl⟩,pK⟩
      | false=>exact⟨Xs nds.length dw+1,Nat.succ_lt_succ (bN rfl),k6,p6,dw,false,rfl,Mp.le_trans le (Mp.le_trans aV aZ),eF,sM,fj.1,.inl ⟨rfl,rfl⟩,pK⟩
  ·refine jf rfl ?_;w_fin
   let FC:(Addr × Tok × Tok × Tok)->Nat->St->List Value->Prop:=λj q S' l=>∃k4,A4 (S'=⟨k4,S.b,S.u,S.l,S.h,S.v,p,S.m⟩) (k.le k4) (k4 j.1=some (.is (yb nds.length j.2.1 j.2.2.1 j.2.2.2))) (∃fJ,A3 (yX k4 l fJ) (fJ.length=q) (∀i,i<q->(fJ.getD i []).Pairwise (· < ·)/\∀z,z∈fJ.getD i []↔z∈sv (lf ls i)))
   refine zG .k (λj:Addr × Tok × Tok × Tok=>(ja B j.1 nds.length j.2.1 j.2.2.1 j.2.2.2 (zS small rfl)).src) [("least",.ref lc),("found",.ref D)]
    FC en (by kernel_rfl) ⟨by decide,rfl,by decide,rfl,trivial⟩ R'.3 (λZZ=>by refine(?_:nds.length<=_);exact zS small rfl) (zY (λj:Addr × Tok × Tok × Tok=>ja B j.1 nds.length j.2.1 j.2.2.1 j.2.2.2 (zS small rfl)) ?_) (λj env2 bq=>zr _ bq (by rfl) (.inr (by rfl))) ?_ ?_ ?_ ?_
   ·w_fin;o_unpack qP;o_unpack yo;refine ao (zI (by w_left) (by rw[List.length_map];exact JS dj small) λt1=>?_);rewrite [List.length_map];refine ae dj ?_;w_fin;refine ao (ql λa k' u v cu hk dB=>?_);exact⟨(a,u,t1,v),rfl,gk hk,rfl,k',rfl,cu,hk,[],⟨rfl,λi v h=>(by injection h)⟩,rfl,λi h=>absurd h (K4 _)⟩
   ·intro j q S' l rI;refine q7 rI λk4 mE aG bz ZZ=>?_;obtain rfl:=mE;exact gk bz
   ·intro j q S' vs' bg FD;refine zJ FD λr9 v ZZ mG=>?_;obtain rfl:=r9;obtain rfl:=mG;exact Vs.Sub.set rfl
   ·rintro j env2 bq q S' l vs' bg iU ⟨k4,rfl,aG,bz,fJ,FE,eG,bS⟩ rK;refine zJ rK λrL v FG rM=>?_;obtain rfl:=rL;obtain⟨tq,rfl⟩:=FG;obtain rfl:=rM;have bP:q<nds.length:=iU;refine aB (xA hI (i:=q) (aM bP Aw)) λt9 EY=>?_;have hr:=hle q;have kQ:lf ls q<bA.length:=HS hr cY bP;refine jP (hS.2 _ _ (Ka kQ)) λFm t6 s1 s2 s3=>?_;have' w1:_:=aG _ _ B3;have' w2:_:=aG _ _ (bU _ _ oG);have Nu:Fm.length<=15:=by
     rw[<-zP];have' this:_:=jb (U:=U) s2.3 λz aS=>B2.2 _ z (by rw[s3]at aS;exact aS);exact bX this hz
    dsimp only[jA,zi];refine z7 rfl ?_;w_fin;o_unpack xp;o_unpack y8;refine ao (zm (by w_left) EY ?_ (df bP small));w_fin;refine ao (zm (v:=.ref bA[lf ls q]) (by w_left) (by refine ae Lf ?_;refine ae (Ka kQ) ?_;rfl) ?_ (df (K1 hr bP) small));w_fin;refine ao (yj (r:=.k) R'.3 (kY s1) s2.2 s2.1 (zS Nu rfl) λa5 out bJ rV Nv FH hs5=>?_);have' mX:k4 a5=none:=rV .k;o_reads;have' aP:k4.le (upd k4 a5 (.list out)):=Mp.av mX;have' h5:_:=za k4 a5 (.list out);revert aP;revert h5;refine gen (upd k4 a5 (.list out)) λk5=>?_;intro h5 aP;have' lo:_:=Nv.length;have' lp:_:=FH.length_eq;rw[zP]at lp;w_fin;refine ao (yh (r:=.k) (gk h5) (JV lo lp Nu rfl) λa6 dV=>?_);have' cE:k5 a6=none:=dV .k;o_reads;have' aZ:k5.le (upd k5 a6 (.tup out)):=Mp.av cE;have' h6:_:=za k5 a6 (.tup out);revert aZ;revert h6;refine gen (upd k5 a6 (.tup out)) λk6=>?_;intro h6 aZ;have dE:=Mp.le_trans aP aZ;refine⟨Vs.Sub.refl _,k6,rfl,Mp.le_trans aG dE,dE _ _ bz,fJ++[bJ],(FE.mono dE).snoc h6 Nv,ae Ki (ae Kj (ae eG rfl)),λi hi=>?_⟩;by_cases e:i<q
    ·refine ae (zQ _ _ _ (XB hi e eG)) ?_;exact bS i e
    ·have' e2:i=q:=qZ hi e;refine ae e2 ?_;refine aR eG ?_;rw[jJ];refine⟨Xo FH s2.3 hs5,λz=>?_⟩;rewrite [FH.mem_iff];refine ae s3 ?_;refine ae eG ?_;rfl
   ·rintro j S' l E ⟨k4,rfl,aG,bz,fJ,FE,eG,bS⟩ FI;have' AJ:k4 E=none:=FI .k;have e0:(ja B j.1 nds.length j.2.1 j.2.2.1 j.2.2.2 (zS small rfl)).src.n=nds.length:=rfl;rw[e0]at eG bS;o_reads;have aP:k4.le (upd k4 E (.list l)):=Mp.av AJ;w_means;refine⟨⟨_,S.b,S.u,S.l,S.h,S.v,S.p,S.m⟩,St.lM (Mp.le_refl _) (Mp.le_refl _) (Mp.le_refl _) (Mp.le_refl _) (Mp.le_refl _) (Mp.le_refl _) oI (Mp.le_refl _),h E _ l fJ (Mp.le_trans bU (Mp.le_trans aG aP)) (za _ _ _) (FE.mono aP) eG λi hi=>⟨(bS i hi).1,λz=>?_⟩⟩;rw[(bS i hi).2];exact⟨B2.1 _ z,λht=>kE.told ht⟩
end
section
set_option genSizeOf false
set_option genInjectivity false
open AutoSeq1 (wpAny_loadPart')
/-! enumerate,of a tuple of pS base -/
set_option tactic.hygienic true in
theorem zam(l:Addr)(items:Array Value)(n:Nat):
  Meets (Builtin.«enumerate.__new__» ⟨[.type "enumerate",.ref l],[]⟩) (λZZ R s=>s.heap.get? l=some { cls:=.type "tuple",data:=.seq items n }/\
   R (.ok (.ret (.ref (s.heap.push { cls:=.type "tuple_iterator",data:=.fields #[.ref l,.int 0 0] }).objs.size)))
    { s with heap:=(s.heap.push { cls:=.type "tuple_iterator",data:=.fields #[.ref l,.int 0 0] }).push { cls:=.type "enumerate",data:=.fields #[.none,.bool false,.ref s.heap.objs.size,rawInt 0,.none,.none] } }) :=
 .of_wp λprog w A R s h=>by
  obtain⟨hp,g,d,tk,os⟩:=s;refine bE h λhl h=>?_;have' bV:_:=sub_enumerate;have hL:Heap.IsTuple (Shared.heap ⟨hp,g,d,tk,os⟩) l items:=⟨_,hl,rfl,n,rfl⟩;wp_walk using wpAny_loadPart' hl
  refine wpAny_stack_any λst=>wpAny_pure ?_;split
  ·rename_i c _ _ _ _ _;cases (c == Value.type "enumerate")
   ·wp_walk using wpAny_loadPart' hl,wpAny_pyIter_tuple hL
    exact⟨_,rfl,h⟩
   ·wp_walk using wpAny_loadPart' hl,wpAny_pyIter_tuple hL
    exact⟨_,rfl,h⟩
  ·wp_walk using wpAny_loadPart' hl,wpAny_pyIter_tuple hL
   exact⟨_,rfl,h⟩
section
variable {prog:Program} {w:World} {A:Around} {E:Value->Shared->Prop} {s:Shared}
theorem zbv(hl:s.heap.get? l=some { cls:=.type "tuple",data:=.seq items n })(h:∀h',IsEnum h' (s.heap.objs.size+1) s.heap.objs.size 0 .none->h'.IsTupleIter s.heap.objs.size l 0->h'.objs.size=s.heap.objs.size+2->
   (∀b o,s.heap.get? b=some o->h'.get? b=some o)->Q (.ref (s.heap.objs.size+1)) { s with heap:=h' }):
  wpAny (model prog w) A (call (.type "enumerate") [.ref l]) Q E s:=by
 refine callType_new F.called_enumerate (by decide) (F.typeCall_enumerate_1 _) (F.newCall_enumerate_1 _) (λobj=>F.args_object_init_2 obj _) F.entry_enumerate_new
  (zam l items n) ⟨hl,?_⟩
 have hz:(s.heap.push { cls:=.type "tuple_iterator",data:=.fields #[.ref l,.int 0 0] }).objs.size=s.heap.objs.size+1:=Vu ..;refine(?_:_/\_);refine ae hz ?_;have he:IsEnum ((s.heap.push { cls:=.type "tuple_iterator",data:=.fields #[.ref l,.int 0 0] }).push
   { cls:=.type "enumerate",data:=.fields #[.none,.bool false,.ref s.heap.objs.size,rawInt 0,.none,.none] }) (s.heap.objs.size+1) s.heap.objs.size 0 .none:=by
  have' this:_:=Kl (s.heap.push { cls:=.type "tuple_iterator",data:=.fields #[.ref l,.int 0 0] })
   (o:={ cls:=.type "enumerate",data:=.fields #[.none,.bool false,.ref s.heap.objs.size,rawInt 0,.none,.none] }) rfl
  rw[hz]at this;exact this
 refine⟨⟨_,he,rfl⟩,h _ he ⟨_,Ke _ (Kl _ rfl),rfl,rfl⟩ (by rewrite [Heap.size_push];refine ae hz ?_;rfl) λb o x=>Ke _ (Ke _ x)⟩
theorem JL{items}(hit:s.heap.IsTupleIter it t i)(ht:s.heap.IsTuple t items)(hx:items[i]? = some x)(hQ:∀h',h'.IsTupleIter it t (i+1)->Heap.SameBut it s.heap h'->Q x { s with heap:=h' }):
  wpAny (model prog w) A (Builtin.SmallTypes.nextOf (.ref it)) Q E s:=by
 refine qY (id hit) λo ho hc hd=>?_;refine xM ht λol lL ZZ nl vP=>?_;refine wpAny_bind (wpAny_callSpecial?_slot (name:=Str.ofString "__next__") hit.typeIs PySem.F.slot_tuple_iterator_next
  (wpAny_call_entry PySem.F.slot_tuple_iterator_next hit.typeIs PySem.F.entry_tuple_iterator_next ?_ (PySem.F.args_tuple_iterator_next_1 _)))
 refine(?_:wpAny _ _ (field (.ref it) 0 >>= _) _ _ s);refine wpAny_bind (wpAny_field ho hd (x:=.ref t) rfl ?_);refine(?_:wpAny _ _ (if (Value.ref t == Value.none)=true then _ else _) _ _ s);refine ae (if_neg (show ¬((Value.ref t == Value.none)=true) from Kn)) ?_;refine(?_:wpAny _ _ (field (.ref it) 1 >>= _) _ _ s);refine wpAny_bind (wpAny_field ho hd (x:=.int i 0) rfl ?_);refine(?_:wpAny _ _ (seqItems? (.ref t) >>= _) _ _ s);refine wpAny_bind (wpAny_seqItems lL vP ?_);simp only[Int.toNat_natCast,hx];refine wpAny_bind (wpAny_setField ho hd (Ln _) (wpAny_pure ⟨x,rfl,wpAny_pure (hQ _ ?_ (Heap.SameBut.update ..))⟩));exact⟨_,Le _ ho (Obj.isFreed_of_fields (Obj.data_mapFields hd _)),(Obj.cls_mapFields ..).trans hc,by
  rw[Obj.data_mapFields hd];simp[rawInt]⟩
theorem Qb{items}(hh:A.handled=none)(hit:s.heap.IsTupleIter it t i)(ht:s.heap.IsTuple t items)(hx:items[i]? = none)(hE:∀h' e,Heap.ExtBut it s.heap h'->(∃o,h'.get? e=some o/\o.cls = .type "StopIteration")->E (.ref e) { s with heap:=h' }):
  wpAny (model prog w) A (Builtin.SmallTypes.nextOf (.ref it)) Q E s:=by
 refine qY (id hit) λo ho hc hd=>?_;refine xM ht λol lL ZZ nl vP=>?_;refine wpAny_bind (wpAny_callSpecial?_slot (name:=Str.ofString "__next__") hit.typeIs PySem.F.slot_tuple_iterator_next
  (wpAny_call_entry PySem.F.slot_tuple_iterator_next hit.typeIs PySem.F.entry_tuple_iterator_next ?_ (PySem.F.args_tuple_iterator_next_1 _)))
 refine(?_:wpAny _ _ (field (.ref it) 0 >>= _) _ _ s);refine wpAny_bind (wpAny_field ho hd (x:=.ref t) rfl ?_);refine(?_:wpAny _ _ (if (Value.ref t == Value.none)=true then _ else _) _ _ s);refine ae (if_neg (show ¬((Value.ref t == Value.none)=true) from Kn)) ?_;refine(?_:wpAny _ _ (field (.ref it) 1 >>= _) _ _ s);refine wpAny_bind (wpAny_field ho hd (x:=.int i 0) rfl ?_);refine(?_:wpAny _ _ (seqItems? (.ref t) >>= _) _ _ s);refine wpAny_bind (wpAny_seqItems lL vP ?_);simp only[Int.toNat_natCast,hx];refine wpAny_bind (wpAny_rule (wpAny_bind (wpAny_setField ho hd (Lq _) ?_)));refine(?_:wpAny _ _ (newExc (.type "StopIteration") [] >>= _) _ _ _);refine wpAny_bind ?_;refine wpAny_bind (wpAny_newObj_type ?_ (by size_fits));refine wpAny_bind (m:=firstArgMember _ _) (wpAny_of_eq (a:=Value.none) (by first | rfl | (rfl)) ?_);refine wpAny_newObj_type ?_ (by size_fits);refine wpAny_bind (wpAny_handled ?_);first | refine ae (show A.in1.handled=none from hh) ?_ | rw[hh]
 refine wpAny_bind (wpAny_pure (wpAny_throw ?_));exact hE _ _ (((Heap.SameBut.update ..).extBut.push _).push _) ⟨_,Kl _ rfl,rfl⟩
theorem Nw(hh:A.handled=none)(it l:Addr)(aO:l≠it)(items:Array Value):
  Draws prog w A it [it,l] items.size (λi v=>items[i]? = some v) (λi h=>h.IsTupleIter it l i/\h.IsTuple l items) where
 live:=λZZ ZZ st=>by refine zV st.1 λo ho ZZ=>?_;exact⟨o,ho⟩
 frame:=λZZ ZZ ZZ st hk=>⟨by refine zt st.1 λo ho r=>?_;exact⟨o,hk it List.mem_cons_self o ho,r⟩,by refine zt st.2 λo ho r=>?_;exact⟨o,hk l (.tail _ (.head _)) o ho,r⟩⟩
 item:=λi s Q E hi st hQ=>by
  refine JL st.1 st.2 (x:=items[i]) (by simp[hi]) λh' bw ix=>?_;exact hQ _ h' s.toks (by simp[hi]) ⟨bw,st.2.extBut ix.extBut aO⟩ ix
 done:=λs Q E st hE=>Qb hh st.1 st.2 (by simp) hE
end
section
variable {B:Bs} {A:Around} {own:Bool} {env:Env} {vs:Vs} {S:St}
noncomputable def gq(B:Bs)(l:Addr)(xs:List Value)(hb:∃n,B.h0.get? l=some (wp xs n)):Src B where
 n:=xs.length
 It:=λh T i=>∃e it old,T=[e,it]/\e≠it/\IsEnum h e it ((i:Nat):Int) old/\h.IsTupleIter it l i
 need:=λZZ=>True
 keep:=λzp q=>by
  refine jy zp λe it old eT ne he hi=>?_;subst eT;refine zt hi λo ho r=>?_;exact⟨e,it,old,rfl,ne,(q e (.head _)).trans he,o,(q it (.tail _ (.head _))).trans ho,r⟩
 there:=λzp a m=>by
  refine jy zp λe it old eT ne he hi=>?_;subst eT;refine zt hi λo ho r=>?_;rcases Kw.mp m with rfl | m
  ·exact⟨_,he⟩
  ·exact ae (Kf.mp m) ⟨_,ho⟩
 self:=λzp h=>by refine jy zp λe it old eT ne he hi=>?_;subst eT;exact wpAny_pyIter_enum he h
 stop:=fun {A S X s T Q} hh o hn zp h=>by
  refine jy zp λe it old eT ne he hi=>?_;subst eT;refine aB hb λn hb=>?_;have hl:=o.keep _ _ hb;have' aO:l≠it:=λq=>by
   refine qv hi λoi eK hc ZZ=>?_;rw[<-q,hl]at eK;obtain rfl:=Option.some.inj eK;simp at hc
  exact wpAny_pyNext_enum_endD (Nw (A:=A.in1) hh it l aO xs.toArray) he (ae Kd ⟨hi,_,hl,rfl,_,rfl⟩) λh' hs=>h h' (yg.of (.tail _ (.head _)) hs)
theorem zbw(hh:A.handled=none)(en:En env sc)(hx:ym (sc.names.lookup x)=true)(hy:ym (sc.names.lookup y)=true)(ho:own=true\/(sc.names.lookup x=some .local/\sc.names.lookup y=some .local)):
  gG B A own env (.Tuple [.Name x px,.Name y py] k pos) (gq B l xs hb) (λi vs S vs' S'=>S'=S/\∃t w,xs[i]? = some w/\vs'=zi (zi vs x (.int i t)) y w):=λX s vs S T i aC o f st hit hn=>by
 refine jy hit λe it old bR ne he hi=>?_;obtain rfl:=bR;refine aB hb λn rq=>?_;have hl:=o.keep _ _ rq;have' aO:l≠it:=λq=>by
  refine qv hi λoi eK hc ZZ=>?_;rw[<-q,hl]at eK;obtain rfl:=Option.some.inj eK;simp at hc
 have ku:e≠l:=λq=>by rw[q]at he;unfold IsEnum at he;rw[hl]at he;simp at he
 have' aA:i<xs.length:=aC;refine wpAny_pyNext_enum_itemD (Nw (A:=A.in1) hh it l aO xs.toArray) he ⟨hi,_,hl,rfl,_,rfl⟩ (ae Kd aA) ne (by simp[ne,ku]) λw h' tk hw ux BV ht hz hk=>⟨_,rfl,?_⟩;have' hw:xs[i]? = some w:=by simpa using hw
 exact Xd (src:=gq B l xs hb) (p:=λi o=>o.cls = .type "tuple_iterator"/\o.data = .fields #[.ref l,.int i 0]) (λne he hi r=>⟨_,_,_,rfl,ne,he,_,hi,r⟩) hh en hx hy ho o f st he ne hw ux BV.1 ht hk
theorem zkr(hb:∃n,B.h0.get? l=some (wp xs n))(h:∀e it o,e≠it->S.no e->S.no it->(o.cls = .type "tuple_iterator"/\o.data = .fields #[.ref l,.int 0 0])->Q (.ref e) ((S.put .m it (.is o)).put .m e (.is (xd it)))):V B A S (call (.type "enumerate") ([]++[.ref l])) Q:=λX s o=>by
 refine aB hb λn hb=>?_;refine zbv (o.keep _ _ hb) λh' he hi hz hk=>?_;refine qY hi λoi eK c1 c2=>?_;have n1:s.heap.objs.size<=s.heap.objs.size+1:=Lq _;have' fi:oi.isFreed=false:=Obj.isFreed_of_fields c2;have' k1:_:=o.new (r:=.m) (c':=.is oi) o.lt.1 o.lt.2 (h':=h') (λb ob q ZZ=>hk b ob q) ⟨_,eK,rfl,fi⟩ { s with heap:=h' } rfl rfl rfl;have b2:=o.above n1;have ne:s.heap.objs.size+1≠s.heap.objs.size:=Mn _;have' k2:_:=k1.new (r:=.m) (c':=.is (xd s.heap.objs.size)) (h':=h') (St.eU b2.1 ne) ⟨b2.2,qO o n1⟩ (λb ob q ZZ=>q) ⟨_,he,rfl,rfl⟩ { s with heap:=h' } rfl rfl rfl;exact⟨_,k2,h _ _ _ ne b2.1 o.lt.1 ⟨c1,c2⟩⟩
theorem zan(h:W B A own env vs S (eval iter env) (λv vs' S'=>∃e it o S₀,v = .ref e/\e≠it/\S₀.no e/\S₀.no it/\(o.cls = .type "tuple_iterator"/\o.data = .fields #[.ref l,.int 0 0])/\S'=(S₀.put .m it (.is o)).put .m e (.is (xd it))/\Q vs' S₀)):GH B A own env vs S iter (gq B l xs hb) Q :=
 ZY (P:=λo=>o.cls = .type "tuple_iterator"/\o.data = .fields #[.ref l,.int 0 0]) (λne he hi r=>⟨_,_,_,rfl,ne,he,_,hi,r⟩) h
end
end
section
set_option genSizeOf false
set_option genInjectivity false
section
variable {B:Bs} {A:Around} {own:Bool} {env:Env} {vs:Vs} {S:St}
theorem Nx(h:W B A own env vs S (eval x env) (λv vs S=>W B A own env vs S (unaryOp op v) Q)):W B A own env vs S (eval (.UnaryOp op x pos) env) Q:=λX s o f =>
 wpAny_UnaryOp (W.un (m:=eval x env) (f:=λv=>unaryOp op v) h o f)
theorem Ny(h:∀t,Q (.int (-a) t) S):V B A S (unaryOp .USub (.int a t)) Q:=λX s o=>PyProof.Rows.neg_int ⟨S,o.toks _,h _⟩
theorem Ok.d9{X:Addr->Option Obj}{s:Shared}(o:Ok B S X s){a:Addr}{xs:Array Value}(hb:B.h0.IsList a xs):s.heap.IsList a xs:=by refine zt hb λob e r=>?_;exact⟨ob,o.keep _ _ e,r⟩
theorem Q4{a b:Addr}{xs:List Value}(hu:A.units<cLine)(ha:B.h0.IsList a xs.toArray)(hb:S.has b (.list []))(h:Q (.bool (!xs.isEmpty)) S):V B A S (compareOp .NotEq (.ref a) (.ref b)) Q:=λX s o=>by
 cases xs with
 | nil=>exact RcNeAt.lists (A:=A) (e:=λ_=>true) (o.d9 ha) (o.list hb) rfl hu (λj h1 h2=>absurd h1 (K4 _)) _ _ _ _ ⟨S,o,by simpa using h⟩
 | cons x r=>exact RcNeAt.lists_lengths (A:=A) (o.d9 ha) (o.list hb) rfl hu _ _ _ _ ⟨S,o,by simpa using h⟩
theorem zcS(h:W B A own env vs S (eval value env) (λov vs S=>∃t xs,ov = .ref t/\B.h0.IsList t (List.toArray xs)/\xs.length<=1000000/\∀c k',S.k.le k'->k' c=some (.list (xs.take a))->S.no c->Q (.ref c) vs (S.to .k k')))(ht:∀o r,letTemporaryGo value o r=pure ():=by intro _ _;rfl):
  W B A own env vs S (eval (.Subscript value (.Slice none (some (.Constant (.int a) k p1)) none p) pos) env) Q:=λX s o f=>by
 refine wpAny_Subscript_list_slice (wpAny_mono (h X s o f) (λov s₁ q=>?_) λZZ ZZ e=>e) ht;obtain⟨bf,S₁,k₁,f₁,t,xs,rfl,hx,hz,q⟩:=q;refine wpAny_evalPart_none (wpAny_evalPart_some (wpAny_Constant_int ?_));have bT:s₁.heap.objs.size<=s₁.heap.objs.size+1:=Lq _;refine⟨t,xs.toArray,none,some (a:Int),rfl,k₁.d9 hx,(ae Kd (ae sizeLine_eq (zS hz rfl))),.none,.int _ _,?_⟩;have' e1:_:=Kl (s₁.heap.push { cls:=.type "slice",data:=.fields #[.none,.int a s₁.toks,.none] }) (o:={ cls:=.type "list",data:=.seq (slicePick xs.toArray none (some (a:Int)) none) }) rfl;rw[Heap.size_push]at e1;refine bE (lW.new (r:=.k) (c':=.list (xs.take a)) k₁ f₁ bT (qO k₁ bT) (h':=(s₁.heap.push { cls:=.type "slice",data:=.fields #[.none,.int a s₁.toks,.none] }).push { cls:=.type "list",data:=.seq (slicePick xs.toArray none (some (a:Int)) none) }) (λb ob e=>Ke _ (Ke _ e)) ⟨_,e1,0,by rw[slicePick_upto']⟩ (s₁.toks+1)) λk₃ f₃=>?_;have aH:=(k₁.above bT).1;exact⟨bf,_,k₃,f₃,q _ _ (Mp.av (aH .k)) (za _ _ _) aH⟩
end
end
section
set_option genSizeOf false
set_option genInjectivity false
theorem Gy:typeLookup (.type "list") "keys"=pure none:=by rewrite [typeLookup_type];refine ae builtinLookup_eq_fast ?_;kernel_rfl
section
variable {prog:Program} {w:World} {A:Around} {E:Value->Shared->Prop}
theorem Zg(hx:s.heap.get? a=some { cls:=.type "list",dict:=none,data:=.seq xs k,slots := #[] })(hA:A.handled=none)(h:∀h' tk e,Heap.NewExcOf s.heap h' e "AttributeError"->E (.ref e) { s with heap:=h',toks:=tk }):
  wpAny (model prog w) A (getAttrBy (.ref a) (.str "keys" tk0) false) Q E s:=by
 obtain⟨hp,g,d,tk,os⟩:=s;have' hT:∀Nz,(⟨hp,g,d,Nz,os⟩:Shared).TypeIs (.ref a) "list":=λZZ=>⟨_,hx,rfl⟩;have' f1:_:=sub_AttributeError;have' f3:_:=PySem.F.slot_list_getattribute.lookup;have' f4:_:=PySem.F.slot_list_getattribute.bind (.ref a);have' f5:_:=am_list_getattr_none;repeat (any_goals (first | assumption | exact hT _ | ((with_reducible show wpAny _ _ (call (Value.builtin "list.__getattribute__") _ _) _ _ _);refine call_meets PySem.F.slot_list_getattribute (hT _) am_entry_list_getattribute (PySem.F.args_list_getattribute_2 _ _) (meets_getattribute_miss_list a xs k #[] "keys" _ Gy (by decide) (by size_fits)) ⟨hx,hA,λh' Nz e dg=>?_⟩) | wp_step))
 refine Ja dg.there λt' u' he=>?_;refine(?_:wpAny _ _ (getattributeRaised _ _ _ _ _ _ _) _ _ _);repeat (any_goals (first | assumption | wp_step))
 all_goals exact h _ _ _ dg.of
end
theorem yM:entryFor table "dict.update.loop"=some Builtin.«dict.update.loop» := entryFor_of_tree (by kernel_rfl)
theorem jB:plainId "dict.update.loop"=true:=by decide +kernel
section
variable {B:Bs} {A:Around} {S:St}
theorem zcT{K:Type}[DecidableEq K]{knd:KeyKind B.prog B.w K}{es:List DictEntry}{kvs:List (K × Value)}{d:Addr}{r:Rg}{key v:Value}{k:K}{Q:Unit->St->Prop}(h:S.get r d=some (.dict es))(D:DK knd es kvs)(hk:knd.is k key=true)(hz:kvs.length<=1000000)(hq:∀es',DK knd es' (stored kvs k v)->Q () (S.put r d (.dict es'))):V B A S (dictSet d key v) Q:=λX s o =>
 wpAny_dictSet_pairs hk (o.dictOf (St.az h) D) (λh' hd hs=>by
  refine zt (qr hd) λes' D' q=>?_;exact⟨_,o.put h hs q _,hq es' D'⟩) (ae sizeLine_eq (zS hz rfl))
noncomputable def yN(k:Mp)(xs:List Value)(prs:List (Str × Value)):Prop:=xs.length=prs.length/\∀(i:Nat) v p,xs[i]? = some v->prs[i]? = some p->∃a t,v = .ref a/\k a=some (.tup [.str p.1 t,p.2])
theorem ZQ{d x it:Addr}{xs:List Value}{prs:List (Str × Value)}{kvs:List (Str × Value)}{X:Addr->Option Obj}{R:Result->Shared->Prop}(hh:A.handled=none)(hX:X it=none)(hx:S.k x=some (.list xs))(hP:yN S.k xs prs)(hz:kvs.length+prs.length<=1000)(hR:∀es s',Ok B (S.put .m d (.dict es)) X s'->DK (strKind B.prog B.w) es (merged kvs prs)->R (.ok (.ret .none)) s'):
  ∀(k i:Nat) (es:List DictEntry) (s:Shared),xs.length - i=k->i<=xs.length->Ok B (S.put .m d (.dict es)) X s->(S.put .m d (.dict es)).no it->(zf B x xs).It s.heap it i->DK (strKind B.prog B.w) es (merged kvs (prs.take i))->
   codeAny (model B.prog B.w) A (.builtin "dict.update.loop" ⟨[.ref d,.ref it,rawInt i,.none],[]⟩) R s:=by
 intro k;induction k with
 | zero =>
  intro i es s hk hi o hS hit D;have' e:i=xs.length:=CD hk hi;subst e;refine codeAny_builtin yM ?_;refine ae (Around.under_plainId jB _) ?_;refine(?_:wpAny _ A.in1 (pyNext (.ref it) >>= _) _ _ s);have' need:(zf B x xs).need (S.put .m d (.dict es)):=St.az (r:=.k) hx;refine wpAny_bind (wpAny_mono ((zf B x xs).stop (Q:=λr s₁=>r=none/\Ok B (S.put .m d (.dict es)) X s₁) (by simp[hh]) o need hit λh' hs=>⟨rfl,o.bx (T:=[it]) (λa m=>ae (Kf.mp m) hX) (λa m=>ae (Kf.mp m) hS) (yg.of (.head _) hs) s.toks⟩) (λr s₁ q=>?_) λZZ ZZ e=>e.elim);obtain⟨rfl,o₁⟩:=q;refine(?_:wpAny _ A.in1 (Builtin.Dict.addKeywords d [] >>= _) _ _ _);refine wpAny_bind (wpAny_pure (wpAny_pure (hR es _ o₁ ?_)));rw[hP.1,List.take_length]at D;exact D
 | succ k ih =>
  intro i es s hk hi o hS hit D;have aC:i<xs.length:=CH hk hi;refine codeAny_builtin yM ?_;refine ae (Around.under_plainId jB _) ?_;refine(?_:wpAny _ A.in1 (pyNext (.ref it) >>= _) _ _ s);have' need:(zf B x xs).need (S.put .m d (.dict es)):=St.az (r:=.k) hx;refine wpAny_bind (wpAny_mono ((zf B x xs).item (Q:=λr s₁=>∃v,r=some v/\(zf B x xs).P i v/\(zf B x xs).It s₁.heap it (i+1)/\Ok B (S.put .m d (.dict es)) X s₁) o need hit aC λv h' tk hP bw hs=>⟨v,rfl,hP,bw,o.bx (T:=[it]) (λa m=>ae (Kf.mp m) hX) (λa m=>ae (Kf.mp m) hS) (yg.of (.head _) hs.extBut) tk⟩) (λr s₁ q=>?_) λZZ ZZ e=>e.elim);obtain⟨v,rfl,hv,bw,o₁⟩:=q;have fY:xs[i]? = some v:=hv;obtain⟨p,hp⟩:∃p,prs[i]? = some p:=⟨_,Ka (aR hP.1 aC)⟩;refine j8 (hP.2 i v p fY hp) λa t bR ha=>?_;obtain rfl:=bR;have' uL:∀a∈[it],(S.put .m d (.dict es)).no a:=λa m=>ae (Kf.mp m) hS;have' tup:_:=o₁.tup (St.az (r:=.k) (show(S.put .m d (.dict es)).get .k a=_ from ha));have' kJ:(merged kvs (prs.take i)).length<=1000000:=by
   have' e1:_:=merged_length_le kvs (prs.take i);have' e2:(prs.take i).length<=prs.length:=ae M3 CV;exact Up hz e1 e2 rfl
  refine(?_:wpAny _ A.in1 (holding [.ref a] _ >>= _) _ _ s₁);refine wpAny_bind (wpAny_holding ?_);refine wpAny_bind (wpAny_tryCatch ?_);refine xM tup λot NA lu nt hdt=>?_;refine wpAny_bind (wpAny_typeOf (T:="tuple") ⟨ot,NA,lu⟩ ?_);refine ae (if_pos (by decide)) ?_;refine wpAny_bind (wpAny_seqItems NA hdt ?_);refine wpAny_pure ?_;refine(?_:wpAny _ _ (holding [.str p.1 t,p.2] (dictSet d (.str p.1 t) p.2)) _ _ s₁);refine wpAny_holding (wpAny_mono (zcT (r:=.m) (Q:=λZZ S'=>∃es',DK (strKind B.prog B.w) es' (stored (merged kvs (prs.take i)) p.1 p.2)/\S'=S.put .m d (.dict es')) (za _ _ _) D (sk _ _) kJ (λes' D'=>⟨es',D',ae St.cV rfl⟩) _ s₁ (o₁.hide uL)) (λZZ s₂ q=>?_) λZZ ZZ e=>e.elim);obtain⟨S₂,o₂,es',D',rfl⟩:=q;refine JR (Yi o₁ hX ((zf B x xs).there bw) o₂) λk₂ n₂ e₂=>?_;refine wpAny_pure ⟨plainId_quiet jB _,?_⟩;exact ih (i+1) es' s₂ (CI hk aC hi) aC k₂ n₂ ((zf B x xs).keep bw e₂) (ae (merged_take_succ _ _ _ _ hp) D')
end
section
variable {prog:Program} {w:World} {A:Around} {E:Value->Shared->Prop}
theorem ZR(hx:s.heap.get? a=some { cls:=.type "list",dict:=none,data:=.seq xs k,slots := #[] })(hA:A.handled=none)(h:∀h' tk,(∀b o,s.heap.get? b=some o->h'.get? b=some o)->Q none { s with heap:=h',toks:=tk }):
  wpAny (model prog w) A (getAttr? (.ref a) "keys") Q E s:=by
 have' f1:_:=sub_AttributeError;unfold getAttr? getAttrBy?;refine wpAny_bind ?_;refine wpAny_mkText ?_;refine wpAny_bind (wpAny_attempt ?_);refine Zg (s:={ s with toks:=s.toks+1 }) hx hA λh' tk e aO=>?_;refine g8 aO.there λob vs he hc ZZ=>?_;refine wpAny_bind (wpAny_isInstance (T:="AttributeError") (b:=true) ⟨ob,he,hc⟩ sub_AttributeError ?_);exact wpAny_pure (h h' tk aO.keeps)
end
section
variable {B:Bs} {A:Around} {S:St}
theorem gK(hh:A.handled=none)(hd:S.m d=some (.dict es))(D:DK (strKind B.prog B.w) es kvs)(hx:S.k x=some (.list xs))(hP:yN S.k xs prs)(hz:kvs.length+prs.length<=1000)(h:∀es',DK (strKind B.prog B.w) es' (merged kvs prs)->Q .none (S.put .m d (.dict es'))):V B A S (call (.builtin "dict.update") ([.ref d]++[.ref x])) Q:=λX s o=>by
 refine aB (o.dict (St.az (r:=.m) hd)) λn e=>?_;have hT:s.TypeIs (.ref d) "dict":=⟨_,e,rfl⟩;refine JX (o.3 x _ (St.az (r:=.k) hx)) λox Br nx bo=>?_;obtain rfl:=bo;refine wpAny_call (codeAny_call_builtin PySem.F.slot_dict_update.plain PySem.F.entry_dict_update (PySem.F.slot_dict_update.check _ _ _ _ _ _ _ _ hT (PySem.F.args_dict_update_2 _ _) ?_));refine wpAny_bind ?_;refine wpAny_bind (wpAny_notOrdered_dict hT ?_);refine(?_:wpAny _ _ (pure (d,[Value.ref x])) _ _ s);refine wpAny_pure ?_;refine(?_:wpAny _ _ (Builtin.Dict.updateFrom "dict.update" d (.ref x) [] .none) _ _ s);refine wpAny_bind (wpAny_typeOf (T:="list") ⟨_,Br,rfl⟩ ?_);refine ae (if_pos (by decide)) ?_;refine wpAny_bind (ZR Br hh λh' tk keep=>?_);have o₁:=o.grown keep tk;refine(?_:wpAny _ _ (_ >>= _) _ _ _);refine wpAny_bind (wpAny_rule ?_);refine wpAny_bind ?_;refine(zf B x xs).start o₁ (St.az (r:=.k) hx) λoi hf hit=>?_;have hX:=o₁.lt.2.1;have hS:=o₁.lt.1;have' ext:yg [h'.objs.size] h' (h'.push oi):=λb ob ZZ e=>Ke _ e;have' k₁:_:=o₁.bx (T:=[h'.objs.size]) (λa m=>ae (Kf.mp m) hX) (λa m=>ae (Kf.mp m) hS) ext tk;have e0:S.put .m d (.dict es)=S:=St.cU hd;refine(?_:wpAny _ _ (pure (Fin.again (Code.builtin "dict.update.loop" ⟨[.ref d,.ref h'.objs.size,rawInt 0,.none],[]⟩))) _ _ _);refine wpAny_pure ⟨plainId_quiet jB _,?_⟩;refine ZQ (S:=S) (d:=d) (x:=x) (it:=h'.objs.size) (prs:=prs) (kvs:=kvs) hh hX hx hP hz (λes' s' o' D'=>⟨_,o',h es' D'⟩) (xs.length - 0) 0 es _ rfl (Kt _) (e0.symm▸k₁) (e0.symm▸hS) hit D
end
end
section
set_option genSizeOf false
set_option genInjectivity false
section
variable {B:Bs} {A:Around} {own:Bool} {env:Env} {vs:Vs} {S:St}
theorem zA.same(f:zA own env vs S X s)(o:Ok B S X s)(h:S.get r d=some c)(hs:Heap.SameBut d s.heap s'.heap):zA own env vs (S.put r d c') X s':=by
 have hd:S.has d c:=St.az h;have keep:∀b ob,b≠d->s.heap.get? b=some ob->s'.heap.get? b=some ob:=λb ob n e=>(hs.2 b n).trans e;have NB:∀a,S.no a->(S.put r d c').no a:=λa n=>St.cK λcc q=>by
  rcases St.dG h (o.5 d) q with ⟨e,_⟩ | ⟨_,q⟩
  ·rw[e]at n;exact St.bu n hd
  ·exact St.bu n q
 have' nl:env.locals≠d:=λe=>St.bu f.4 (e▸hd);refine zV f.1 λm fK hm=>?_;obtain⟨ol,es,ep,e1,r1⟩:=fK;refine⟨⟨m,⟨ol,es,ep,keep _ _ nl e1,r1⟩,hm⟩,λx cc hx=>?_,f.3,NB _ f.4,λx cc hx=>?_,f.6,f.7⟩
 ·refine zV (f.2 x cc hx) λv₀ iu hv=>?_;obtain⟨oc,fL,B8⟩:=iu;have' aO:cc≠d:=λe=>by
   have q:=f.5 x cc (mem_of_lookup hx);split at q
   ·exact St.bu q.2.1 (e▸hd)
   ·refine aB q λob q=>?_;rw[o.4 _ _ (e▸hd)]at q;injection q
  exact⟨v₀,⟨oc,keep _ _ aO fL,B8⟩,hv⟩
 ·have q:=f.5 x cc hx;split at q
  ·rename_i w;refine ae (if_pos w) ?_;exact⟨q.1,NB _ q.2.1,q.2.2⟩
  ·rename_i w;refine ae (if_neg w) ?_;exact q
theorem zks(h:∀d,S.no d->W B A own env vs (S.put r d (.dict [])) (eval k1 env) (λa vs S1=>W B A own env vs S1 (eval v1 env) (λb vs S2=>W B A own env vs S2 (eval k2 env) (λa' vs S3=>W B A own env vs S3 (eval v2 env) (λb' vs S4 =>
   S4.get r d=some (.dict [])/\∃x t y u,a = .str x t/\a' = .str y u/\∀es,DK (strKind B.prog B.w) es (merged [] [(x,b),(y,b')])->Q (.ref d) vs (S4.put r d (.dict es))))))):
  W B A own env vs S (eval (.Dict [some k1,some k2] [v1,v2] pos) env) Q:=λX s o f=>by
 have bT:s.heap.objs.size<=s.heap.objs.size:=Kz _;refine wpAny_Dict_pairs (knd:=strKind B.prog B.w) (pairs:=[(eval k1 env,do let x <-eval v1 env;standAt pos;pure x),(eval k2 env,do let x <-eval v2 env;standAt pos;pure x)]) rfl (by simp) (Kq _ _) ?_;refine bE (lW.new (r:=r) (c':=.dict []) o f bT (qO o bT) (h':=s.heap.push { cls:=.type "dict",data:=.dict #[] }) (λb ob e=>Ke _ e) ⟨Q5 [] 0,Kl _ rfl,0,rfl⟩ s.toks) λk₁ f₁=>?_;have' H:_:=h _ o.lt.1 _ _ k₁ f₁;refine evalPairs_cons (wpAny_mono H (λa s₁ q=>?_) λZZ ZZ e=>e);obtain⟨bf,S₁,k₁,f₁,q⟩:=q;refine wpAny_bind (wpAny_mono (q _ _ k₁ f₁) (λb s₂ q=>?_) λZZ ZZ e=>e);obtain⟨aI,S₂,k₂,f₂,q⟩:=q;refine wpAny_bind (wpAny_standAt (wpAny_pure ?_));refine evalPairs_cons (wpAny_mono (q _ _ k₂ f₂) (λa' s₃ q=>?_) λZZ ZZ e=>e);obtain⟨aD,S₃,k₃,f₃,q⟩:=q;refine wpAny_bind (wpAny_mono (q _ _ k₃ f₃) (λb' s₄ q=>?_) λZZ ZZ e=>e);obtain⟨lV,S₄,k₄,f₄,hd,x,t,y,u,rfl,rfl,qf⟩:=q;refine wpAny_bind (wpAny_standAt (wpAny_pure ?_));refine evalPairs_nil ⟨[(x,b),(y,b')],⟨sk _ _,rfl,sk _ _,rfl,trivial⟩,?_,λh' hD hs=>?_⟩
 ·exact k₄.dictOf (St.az hd) (DK.nil _)
 ·refine zt (qr hD) λes' D' qo=>?_;exact⟨lV,_,k₄.put hd hs qo _,zA.same f₄ k₄ hd hs,qf es' D'⟩
theorem zeH(en:En env sc)(FJ:defaultsOf params env=([],[]))(eD:closureFor scope env=pure clos)(eo:env.code = .ref c)(C:CodeHd B.h0 c P)(hP:S.m P=some (.is (tabObj ps)))(ht:TriplesOk ps.toList)(hnf:codeAmong pos ps.toList=none)(hgP:mainGlobals≠P)(hb:B.h0.BuiltinsAt B.mg P)(h:∀f c' oc ip t pm fe qual k' bM,S.k.le k'->k' f=some (.is (kla_obj "<lambda>" qual params body scope clos pm c' fe))->k' c'=some (.is oc)->oc.data = .fields ip->ip[1]? = some (.str qual t)->
   Q (.ref f) vs ⟨k',S.b,S.u,S.l,S.h,S.v,S.p,upd S.m P (.is (tabObj bM))⟩):W B A own env vs S (eval (.Lambda params body scope pos) env) Q:=λX s o f=>by
 have FK:S.has P (.is (tabObj ps)):=St.az (r:=.m) hP;refine qv (o.3 P _ FK) λoP NC bG ZZ=>?_;obtain rfl:=bG;obtain⟨bm,ob,fQ,rq,hb3,hb4,hb5,hb6,hb7,hb8⟩:=hb;refine kla_eval FJ ?_;refine kla_makeFunction (mg:=B.mg) (c:=c) (P:=P) (ps:=ps) eD en.3 (B.g.keeps o.keep) eo (C.keeps o.keep) NC ht hnf hgP ⟨bm,ob,fQ,rq,hb3,hb4,o.keep _ _ hb5,hb6,hb7,hb8⟩ λc' fe h' tk hx BE aC FL BW=>?_;refine Zo FL λc₂ oc ip t e2 fL B8 hv=>?_;injection e2 with zz1;obtain rfl:=zz1
 let bM:=ps ++ #[rawInt pos.line,rawInt pos.col,.ref c']
 have NF:(s.heap.update P λZZ=>tabObj bM).get? P=some (tabObj bM):=Le _ NC rfl;have sb:Heap.SameBut P s.heap (s.heap.update P λZZ=>tabObj bM):=Heap.SameBut.update ..;have o1:=o.put (r:=.m) (c':=.is (tabObj bM)) hP sb ⟨_,NF,rfl,rfl⟩ s.toks;have f1:=zA.same (s':={ s with heap:=s.heap.update P λZZ=>tabObj bM }) (r:=.m) (c':=.is (tabObj bM)) f o hP sb;have' kI:∀b ob,(s.heap.update P λZZ=>tabObj bM).get? b=some ob->h'.get? b=some ob:=λb ob e=>by
  by_cases FN:b=P
  ·subst FN;rw[NF]at e;obtain rfl:=Option.some.inj e;exact BW
  ·exact hx b ob FN ((sb.2 b FN).symm.trans e)
 have NI:(s.heap.update P λZZ=>tabObj bM).objs.size<=c':=ae sb.1 BE;refine bE (lW.new (r:=.k) (c':=.is oc) o1 f1 (a:=c') NI (qO o1 NI) (h':=h') kI ⟨oc,fL,rfl,Obj.isFreed_of_fields B8⟩ tk) λo2 f2=>?_;have FO:h'.objs.size<=h'.objs.size:=Kz _;have' hfn:_:=Kl h' (o:=kla_obj "<lambda>" (env.qual++"<lambda>") params body scope clos ((B.mg "__name__").getD .none) c' fe) rfl;refine bE (lW.new (r:=.k) (c':=.is (kla_obj "<lambda>" (env.qual++"<lambda>") params body scope clos ((B.mg "__name__").getD .none) c' fe)) o2 f2 (a:=h'.objs.size) FO (qO o2 FO) (h':=h'.push (kla_obj "<lambda>" (env.qual++"<lambda>") params body scope clos ((B.mg "__name__").getD .none) c' fe)) (λb ob e=>Ke _ e) ⟨_,hfn,rfl,rfl⟩ tk) λo3 f3=>?_;have' n1:S.k c'=none:=(o.above BE).1 .k;have n2:upd S.k c' (.is oc) h'.objs.size=none:=(o2.above FO).1 .k;refine⟨vs,_,o3,f3,h _ c' oc ip t _ fe _ _ bM (Mp.le_trans (Mp.av n1) (Mp.av n2)) (za _ _ _) (Mp.av n2 _ _ (za _ _ _)) B8 hv⟩
end
end
section
set_option genSizeOf false
set_option genInjectivity false
@[reducible] noncomputable def Bs.z(B:Bs)(z:List (Addr × Value)):Bs:=⟨B.prog,B.w,B.h0,B.mg,B.mb,B.os,B.X,B.g,B.b,B.nolimit,z,B.blt⟩
section
variable {B:Bs} {A:Around} {env:Env} {vs:Vs} {S:St}
theorem Ok.z0(hz:B.fz=[])(o:Ok (B.z z) S X s):Ok B S X s :=
 ⟨⟨o.1.1,λc v q=>by rw[hz]at q;cases q⟩,o.2,o.3,o.4,o.5,o.6,o.7,o.8⟩
theorem Ok.z1(o:Ok B S X s)(h:∀c v,(c,v)∈z->∃ob,X c=some ob/\ob.data = .cell (some v)):Ok (B.z z) S X s :=
 ⟨⟨o.1.1,h⟩,o.2,o.3,o.4,o.5,o.6,o.7,o.8⟩
theorem zlX(hz:B.fz=[])(hc:env.cells.lookup x=some cc)(hv:zo vs x=some v)(h:V (B.z [(cc,v)]) A S t (λa S'=>Q a vs S')):W B A true env vs S t Q:=λX s o f=>by
 have hm:=mem_of_lookup hc;have' q:_:=f.5 x cc hm;rw[if_pos rfl]at q;refine zV (f.2 x cc hc) λv₀ fK cg=>?_;obtain⟨oc,fL,hd⟩:=fK;obtain rfl:=cg v hv;have' o':Ok (B.z [(cc,v)]) S (jF true env X s.heap) s:=(o.around f).z1 λc w q'=>by
  cases List.mem_singleton.mp q';exact⟨oc,(qN q.1 hm rfl).trans fL,hd⟩
 exact wpAny_mono (h _ s o') (λa s' zp=>by obtain⟨S',o',q⟩:=zp;exact⟨vs,S',(o'.z0 hz).dJ o,f.back o (o'.z0 hz),q⟩) λZZ ZZ e=>e
theorem j2.cv(z:List (Addr × Value))(h:j2 B k es xs):j2 (B.z z) k es xs:=⟨h.1,h.2,h.3⟩
theorem BR.cv(z:List (Addr × Value))(h:BR B L k b nds):BR (B.z z) L k b nds :=
 ⟨h.1,h.2,h.3,(by obtain⟨es,xs,h1,h2,h3,h4⟩:=h.4;exact⟨es,xs,h1,h2.cv z,h3,h4⟩),h.5,h.6,h.7⟩
theorem HR.cv(z:List (Addr × Value))(H:HR B L k b u l h v nds par aj kn us wt ne):HR (B.z z) L k b u l h v nds par aj kn us wt ne :=
 ⟨H.1.cv z,H.2,H.3,H.4,H.5,H.6,(by refine jP H.7 λes xs h1 h2 h3=>?_;exact⟨es,xs,h1,h2.cv z,h3⟩),H.8,H.9,H.10,H.11⟩
theorem KR.cv{K:KL}{h:Addr}{n:Nat}{val:Nat->Option (List Int)}(z:List (Addr × Value))(R:KR B K h k p n val):KR (B.z z) K h k p n val:=⟨R.1,R.2,R.3,R.4⟩
theorem KR.cv'{K:KL}{h:Addr}{n:Nat}{val:Nat->Option (List Int)}{z:List (Addr × Value)}(R:KR (B.z z) K h k p n val):KR B K h k p n val:=⟨R.1,R.2,R.3,R.4⟩
theorem yL.cv(z:List (Addr × Value))(T:yL B k es kvs tb):yL (B.z z) k es kvs tb:=⟨T.1,T.2,T.3⟩
end
end
section
noncomputable def JI(nds:List Nd)(ps:List (Nat × Nat))(f:Nat->Nat)(val:Nat->Option (List Int))(fl:List (List Int)):Prop:=A4
 (fl.length=nds.length)
 (∀c,val c≠none->c<nds.length/\f c=c)
 (∀i,i<nds.length->∀x,x∈fl.getD i []↔x∈(val (f i)).getD [])
 (Rep nds ps f)
theorem JI.nil:JI [] [] (λi=>i) (λZZ=>none) []:=⟨rfl,λc h=>absurd rfl h,λi h=>absurd h (K4 _),⟨λi=>Kz _,λi=>rfl,λi j h=>absurd h (K4 _)⟩⟩
theorem JI.hF(J:JI nds ps f val fl)(hn:∀(i:Nat) nd,nds[i]? = some nd->bW[i]? = some nd)(hp:∀p∈ps,p∈bM)(C:yW bW bM g):
  ∀r x,(∃c,g c=r/\x∈(val c).getD [])↔∃m,m<bW.length/\g m=r/\x∈fl.getD m []:=by
 have' hle:∀i,i<nds.length->i<bW.length:=λi hi=>by
  have' this:_:=hn i _ (Ka hi);exact(Kb.mp this).1
 intro r x;constructor
 ·intro bZ;refine zV bZ λc hc hx=>?_;have' aO:val c≠none:=λe=>by rw[e]at hx;cases hx
  refine bE (J.2 c aO) λh1 h2=>?_;exact⟨c,hle c h1,hc,(J.3 c h1 x).mpr (ae h2 hx)⟩
 ·intro rA;refine qv rA λm hm hr hx=>?_;have FP:m<nds.length:=by
   rcases Vz m nds.length with h | h
   ·exact h
   ·rw[List.getD_eq_getElem?_getD,List.getElem?_eq_none (ae J.1 h)]at hx;cases hx
  refine⟨f m,?_,(J.3 m FP x).mp hx⟩;have' aC:f m<nds.length:=K1 (J.4.1 m) FP;have' this:_:=J.4.3 (f m) m aC FP (J.4.2 m);exact ae (C.mI (this.mono hn hp)) (ae hr rfl)
theorem qp.same{nds:List Nd}{f g:Nat->Nat}{tb:Str->List Int}{fm:Nat->List Int}(I:BI nds)(h:∀i,i<nds.length->f i=g i){c:Nat}{x:Int}(T:qp nds f tb fm c x):qp nds g tb fm c x:=by
 induction T with
 | @table n nd x h1 h2 =>
  refine ae (h n (Kb.mp h1).1) ?_;exact .table h1 h2
 | @dT n x h1 h2 =>
  exact ae (h n h1) (.dT h1 h2)
 | @u0 n k nd x h1 h2 h3 ih =>
  have hn:=(Kb.mp h1).1;have' hk:_:=I.3 n nd h1 k h2;refine ae (h n hn) ?_;rw[h k (Zj hk hn)]at ih;exact .u0 h1 h2 ih
theorem JI.step(I:BI nds)(F:Rep nds ps f)(CF:yW nds ps f)(G:Rep nds ps g)(CG:yW nds ps g)(hv:∀c,c<nds.length->f c=c->val c≠none/\∀x,x∈(val c).getD []↔qp nds f tb fm c x)(hs:∀c,val c≠none->c<nds.length/\f c=c)(hl:fl.length=nds.length)(hf:∀i,i<nds.length->∀z,z∈fl.getD i []↔qp nds g tb fm (g i) z):JI nds ps f val fl:=by
 refine⟨hl,hs,λi hi x=>?_,F⟩;have e:∀i,i<nds.length->f i=g i:=λi hi=>F.unique CF G CG hi;have' aC:f i<nds.length:=K1 (F.1 i) hi;rewrite [(hv (f i) aC (F.2 i)).2 x,hf i hi x];refine aR (e i hi) ?_;exact⟨λT=>T.same I λi hi=>(e i hi).symm,λT=>T.same I e⟩
end
section
set_option genSizeOf false
set_option genInjectivity false
variable {B:Bs} {A:Around} {S:St}
variable {L:HL} {nds:List Nd} {ps:List (Nat × Nat)} {par:List Nat} {aj:List (List Nat)} {kn:List (Nd × Nat)} {us:Nat->List Nat} {wt:List Nat} {ne:Nat}
theorem at_{α:Type}{l m:List α}{a b:α}(n:Nat)(e:l=m)(h:l[n]? = some a)(h':m[n]? = some b):a=b:=by subst e;exact Option.some.inj (h.symm.trans h')
theorem j3{K:Frag}{a:Addr}{fd NM:FuncData}{oc oc0:Value}{od od0:Option Addr}{cR FQ:Array (Option Value)}(h:K.lookup a=some ⟨oc,od,.func fd,cR⟩)(h0:K.lookup a=some ⟨oc0,od0,.func NM,FQ⟩):NM=fd:=by
 rw[h]at h0;injection h0 with zz1;injection zz1 with zz2 zz3 zz4;obtain rfl:=zz2;obtain rfl:=zz3;injection zz4 with zz5;obtain rfl:=zz5;rfl
theorem jE{a b:List Stmt}{x:FuncBody}(h0:x = .stmts a)(h:x = .stmts b):a=b:=by
 rw[h0]at h;injection h
noncomputable def NN:Value->Bool
 | .int _ _=>true
 | _=>false
theorem zkt:∀(xs:List Value),xs.all NN=true->∃rs,IntsAre xs rs:=by
 intro zl;induction zl with
 | nil =>
  intro _;exact⟨[],.nil⟩
 | cons x r ih =>
  intro h;simp only[List.all_cons,Bool.and_eq_true]at h;refine aB (ih h.2) λrs hr=>?_;cases x <;> first | exact⟨_,.cons _ _ hr⟩ | exact absurd h.1 (by simp[NN])
theorem zeI(P:Params):∃xs n,(hd.heap_1_39 P).lookup 484=some (wp xs n)/\(∃rs,IntsAre xs rs)/\xs.length<=1000:=by
 refine⟨_,_,by k_is,zkt _ (by rfl),by decide⟩
theorem zeJ(P:Params):nsIn (hd.heap_1_39 P) mainGlobals "_law_plain"=some (some (.ref 484)):=by kernel_rfl
theorem zlx(P:Params):nsIn (hd.heap_1_39 P) mainGlobals "_law_ops"=some (some (.ref 483)):=by kernel_rfl
theorem zku{ns:List Int}(hK:B.K.lookup 525=some ⟨oc,od,.func fd,cR⟩)(hb:fd.body = .stmts (s0::r0))(R:zC 8 A)(en:En env fd.scope)(tY:B.h0.IsList sa xs.toArray)(hI:IntsAre xs ns)(hz:xs.length<=1000)(h:∀lo k' m',S.k.le k'->S.m lo=none->qb B k' m' lo->(∀a,a≠lo->m' a=S.m a)->Q .next [("script",.ref sa),("lot",.ref lo)] ⟨k',S.b,S.u,S.l,S.h,S.v,S.p,m'⟩):W B A true env [("script",.ref sa)] S (exec s0 env) Q:=by
 have' e:_=fd:=j3 hK (by delta Bs.K;k_is);subst e;have' e:_:=jE rfl hb;have e:=at_ 0 e rfl rfl;subst e;clear hb hK;dsimp only at en;w_fin;refine zks (r:=.m) λd hd=>?_;o_reads;have' hdm:S.m d=none:=hd .m;have key:∀(ra:Addr) (k':Mp) (m4:Mp) (t:Tok) (es:List DictEntry) (ta:Tok),S.k.le k'->m4=upd S.m d (.dict [])->MT B k' ra->DK (strKind B.prog B.w) es (merged [] [(("row":Str),.ref ra),(("at":Str),.int (-1) ta)])->Q .next [("script",.ref sa),("lot",.ref d)] ⟨k',S.b,S.u,S.l,S.h,S.v,S.p,upd m4 d (.dict es)⟩:=λra k' m4 t es ta le e hr D=>by
  subst e;refine h d k' _ le hdm ⟨es,_,ra,-1,ta,za _ _ _,D,Kc rfl,rfl,rfl,by decide,hr⟩ λa ha=>?_;rewrite [IJ];refine ae (zb _ _ ha) ?_;rfl
 w_fin;refine wu ?_;w_fin;refine jM ?_;w_fin;refine ya (Kt _) λc0 k0 bU fU ZZ=>?_;o_reads;refine ao (Q4 (by have' this:_:=R.2;refine(?_:_<9900);exact Xx this rfl) tY (by w_left) ?_);refine zc ?_;have' hu:_:=R.2;cases hb:xs.isEmpty with
 | true =>
  refine jf rfl ?_;refine wq en (by rfl) (zeJ _) ?_;w_fin;refine Nx ?_;w_fin;refine ao (Ny λt=>?_);refine jg (zeI B.w.params) λys n vq tP hp3=>?_;refine aB tP λrs tP=>?_;refine⟨za _ _ _,_,_,_,_,rfl,rfl,λes D=>?_⟩;exact key 484 k0 _ t es _ bU rfl ⟨ys,rs,tP,hp3,.inr ⟨n,B.X 484 _ vq⟩⟩ D
 | false =>
  refine z7 rfl ?_
  let Inv1:(Addr × { l:List Value // l.length<=1000 })->Nat->St->List Value->Prop:=λj i S' l=>∃k4,A6 (S'=⟨k4,S.b,S.u,S.l,S.h,S.v,S.p,upd S.m d (.dict [])⟩) (S.k.le k4) (k4 j.1=some (.list j.2.1)) (∃ms,IntsAre j.2.1 ms) (l.length=i) (∃os,IntsAre l os)
  refine zG .k (λj:Addr × { l:List Value // l.length<=1000 }=>(zf B j.1 j.2.1).src) []
   Inv1 en (by kernel_rfl) trivial R.3 (λj=>Ks j.2.2 (by decide)) (zY (λj:Addr × { l:List Value // l.length<=1000 }=>zf B j.1 j.2.1) ?_) (λj env2 bq=>zr _ bq (by rfl) (.inr (by rfl))) ?_ ?_ ?_ ?_
  ·refine zcS ?_;refine Zq en (by rfl) (by rfl) ?_;refine⟨sa,xs,rfl,tY,by exact zS hz rfl,λc1 k1 aU lC ZZ=>?_⟩;dsimp only[St.put,St.to,St.get]at aU lC |-;have hl:(xs.take 60).length<=1000:=ae M3 (Uq rfl);exact⟨(c1,⟨xs.take 60,hl⟩),rfl,gk lC,rfl,k1,rfl,Mp.le_trans bU aU,lC,⟨_,hI.take 60⟩,rfl,[],.nil⟩
  ·rintro j i S' l ⟨k4,rfl,_,bz,_⟩;exact gk bz
  ·intro j i S' vs' bg bZ;refine zJ bZ λbo v ZZ bG=>?_;obtain rfl:=bo;obtain rfl:=bG;exact Vs.Sub.set rfl
  ·rintro j env2 bq i S' l vs' bg aQ ⟨k4,rfl,aG,bz,⟨ms,iQ⟩,kB,os,pQ⟩ fS;refine zJ fS λcj v hv eB=>?_;obtain rfl:=cj;obtain rfl:=eB;dsimp only[jA,zi];refine z7 rfl ?_;refine j8 (iQ.at i v hv) λz tz dy ZZ=>?_;obtain rfl:=dy;w_fin;o_unpack zlL;refine ao (WO λt1=>?_);w_fin;refine ao (Q8 (by decide) λt2=>?_);exact⟨Vs.Sub.refl _,k4,rfl,aG,bz,⟨ms,iQ⟩,ae Ki (ae Kj (ae kB rfl)),_,pQ.append (.cons _ _ .nil)⟩
  ·rintro j S' l D ⟨k4,rfl,aG,bz,_,kB,os,pQ⟩ di;have' cm:k4 D=none:=di .k;have' ll:l.length<=1000:=by
    exact ae kB j.2.2
   o_reads;have' aP:k4.le (upd k4 D (.list l)):=Mp.av cm;have' hD:_:=za k4 D (.list l);generalize upd k4 D (.list l)=k5 at aP hD |-;w_fin;refine Nx ?_;w_fin;refine ao (Ny λt=>?_);refine⟨za _ _ _,_,_,_,_,rfl,rfl,λes D=>?_⟩;exact key _ k5 _ t es _ (Mp.le_trans aG aP) rfl ⟨l,os,pQ,ll,.inl hD⟩ D
end
section
set_option genSizeOf false
set_option genInjectivity false
variable {B:Bs} {A:Around} {S:St}
variable {L:HL} {nds:List Nd} {ps:List (Nat × Nat)} {par:List Nat} {aj:List (List Nat)} {kn:List (Nd × Nat)} {us:Nat->List Nat} {wt:List Nat} {ne:Nat}
noncomputable abbrev qL:List Nd:=[(("a":Str),[]),(("b":Str),[]),(("c":Str),[])]
theorem zeK{fd:FuncData}{oc:Value}{od:Option Addr}{cR:Array (Option Value)}{s0 s1:Stmt}{r0:List Stmt}{sa lo:Addr}(hK:B.K.lookup 525=some ⟨oc,od,.func fd,cR⟩)(hb:fd.body = .stmts (s0::s1::r0))(R:zC 8 A)(en:En env fd.scope)(h:∀L k' b' u' h' m' no pa fo as,S.k.le k'->HR B L k' b' u' S.l h' S.v [] [] [] [] (λZZ=>[]) [] 0->m' no=some (.list (as.map .ref))->jl k' as qL->m' pa=some (.list [])->k' fo=some (.list [])->S.m no=none->S.m pa=none->no≠pa->(∀a,a≠no->a≠pa->m' a=S.m a)->
   Q .next [("script",.ref sa),("lot",.ref lo),("heap",.ref L.h),("nodes",.ref no),("pairs",.ref pa),("former",.ref fo)] ⟨k',b',u',S.l,h',S.v,S.p,m'⟩):W B A true env [("script",.ref sa),("lot",.ref lo)] S (exec s1 env) Q:=by
 have' e:_=fd:=j3 hK (by delta Bs.K;k_is);subst e;have' e:_:=jE rfl hb;have e:=at_ 1 e rfl rfl;subst e;clear hb hK;dsimp only at en;w_fin;refine yi (qA en (by rfl)) ?_;refine zN ?_;w_fin;o_unpack zki;refine ao (zeC (R.less (jZ rfl)) λL k1 b1 u1 h1 aU H1=>?_);w_fin;refine jM ?_;w_fin;refine zN ?_;w_fin;refine ze (Kv _) λca k2 bt hca ZZ=>?_;o_reads;w_fin;refine zN ?_;w_fin;refine ze (Kv _) λcb k3 aV hcb ZZ=>?_;o_reads;w_fin;refine zN ?_;w_fin;refine ze (Kv _) λcc k4 aG ky ZZ=>?_;o_reads;w_fin;refine jr .m (Kq _ _) λno aH=>?_;have' dB:S.m no=none:=aH .m;o_reads;w_fin;refine jM ?_;w_fin;refine jr .m (Kt _) λpa hZ=>?_;have oR:upd S.m no (.list [.ref ca,.ref cb,.ref cc]) pa=none:=hZ .m;have aO:no≠pa:=λe=>by rw[e,za]at oR;injection oR
 rw[zb _ _ (Ne.symm aO)]at oR;o_reads;w_fin;refine jM ?_;w_fin;refine ya (Kt _) λfo k5 aP AK ZZ=>?_;o_reads;w_fin;refine ze (Kq _ _) λct k6 aZ lu ZZ=>?_;dsimp only[St.put,St.to,St.get]at aZ lu |-;refine jU R.3 (.inl (gk lu)) (by rfl) ?_;refine z8 (A:=A) en (by rfl) (.inl rfl) (z8 en (by rfl) (.inl rfl) (z8 en (by rfl) (.inl rfl) (z8 en (by rfl) (.inl rfl) ?_)));have NP:=Mp.le_trans bt (Mp.le_trans aV (Mp.le_trans aG (Mp.le_trans aP aZ)));have FR:=Mp.le_trans aP aZ;refine h L k6 b1 u1 h1 _ no pa fo [ca,cb,cc] (Mp.le_trans aU NP) (H1.mono NP) ?_ ?_ (za _ _ _) (aZ _ _ AK) dB oR aO λa ha hb=>?_
 ·refine ae (zb _ _ aO) ?_;rw[za];rfl
 ·have' ea:_:=Mp.le_trans aV (Mp.le_trans aG FR) _ _ hca;have' eb:_:=Mp.le_trans aG FR _ _ hcb;have' ec:_:=FR _ _ ky;exact((jl.snoc (nds:=[]) (as:=[]) ⟨rfl,λi a nd e=>by injection e⟩ (nd:=(("a":Str),[])) ⟨_,ea,_,_,rfl,.nil⟩).snoc (nd:=(("b":Str),[])) ⟨_,eb,_,_,rfl,.nil⟩).snoc (nd:=(("c":Str),[])) ⟨_,ec,_,_,rfl,.nil⟩
 ·exact ae (zb _ _ hb) (ae (zb _ _ ha) rfl)
theorem Vs.Sub.app(F w:Vs):Vs.Sub F (F++w):=λy u q=>by
 unfold zo at q |-;exact ae List.lookup_append (ae q rfl)
theorem Vs.Sub.snoc{F vs:Vs}(h:Vs.Sub F vs){x:Str}(hx:zo F x=none)(v:Value):Vs.Sub (F++[(x,v)]) (zi vs x v):=λy u q=>by
 unfold zo at q;rw[zw,List.lookup_append]at *;by_cases e:y=x
 ·subst e;have' dg:F.lookup y=none:=hx;rw[dg]at q;simpa using q
 ·refine ae (if_neg e) ?_;have' this:([(x,v)]:Vs).lookup y=none:=by
   refine ae Lc ?_;have' this:(y == x)=false:=by simpa using e
   exact ae this rfl
  rw[this,Option.or_none]at q;exact h y u q
structure Lw (B:Bs) (L:HL) (lo no:Addr) (S:St) (nds:List Nd) (ps:List (Nat × Nat)) (ne:Nat):Prop where
 ex:E5 λpar aj kn us as=>A5 (HR B L S.k S.b S.u S.l S.h S.v nds par aj kn us [] ne) (HI nds ps par aj kn us []) (qb B S.k S.m lo) (S.m no=some (.list (as.map .ref))) (jl S.k as nds)
theorem HI.nil:HI [] [] [] [] [] (λZZ=>[]) [] :=
 ⟨(⟨by decide,λnd h=>(nomatch h),λi nd h=>(by injection h),λnd h=>(nomatch h),L3⟩),
 (⟨rfl,by decide,λj=>Kt _,λr h=>absurd h (K4 _)⟩),
 (rfl),
 (λi j h=>absurd h (K4 _)),
 (λa b h=>(nomatch h)),
 (λnd m h=>(nomatch h)),
 (λn nd h=>(by injection h)),
 (L3),
 (λn nd h=>(by injection h)),
 (λc ZZ h=>absurd h (K4 _)),
 (λc ZZ h=>absurd h (K4 _)),
 (λn h=>(nomatch h)),
 (by decide)⟩
theorem zkv(hi:i<3):∃x,qL[i]? = some (x,[])/\xt x/\(x,[])∉qL.take i/\qL.take (i+1)=qL.take i++[(x,[])]:=by
 rcases(show i=0\/i=1\/i=2 by exact Ur hi) with rfl | rfl | rfl
 ·exact⟨"a",rfl,⟨97,by decide,by decide⟩,by decide,rfl⟩
 ·exact⟨"b",rfl,⟨98,by decide,by decide⟩,by decide,rfl⟩
 ·exact⟨"c",rfl,⟨99,by decide,by decide⟩,by decide,rfl⟩
theorem zeL{fd:FuncData}{oc:Value}{od:Option Addr}{cR:Array (Option Value)}{s0 s1 s2:Stmt}{r0:List Stmt}{sa lo no pa fo:Addr}{as:List Addr}(hK:B.K.lookup 525=some ⟨oc,od,.func fd,cR⟩)(hb:fd.body = .stmts (s0::s1::s2::r0))(R:zC 8 A)(en:En env fd.scope)(H:HR B L S.k S.b S.u S.l S.h S.v [] [] [] [] (λZZ=>[]) [] 0)(Lo:qb B S.k S.m lo)(aH:S.m no=some (.list (as.map .ref)))(hN:jl S.k as qL)(h:∀vs' k' b' u' l' h' v',S.k.le k'->Lw B L lo no ⟨k',b',u',l',h',v',S.p,S.m⟩ qL [] 3->Vs.Sub [("script",.ref sa),("lot",.ref lo),("heap",.ref L.h),("nodes",.ref no),("pairs",.ref pa),("former",.ref fo)] vs'->Q .next vs' ⟨k',b',u',l',h',v',S.p,S.m⟩):
  W B A true env [("script",.ref sa),("lot",.ref lo),("heap",.ref L.h),("nodes",.ref no),("pairs",.ref pa),("former",.ref fo)] S (exec s2 env) Q:=by
 have' e:_=fd:=j3 hK (by delta Bs.K;k_is);subst e;have' e:_:=jE rfl hb;have e:=at_ 2 e rfl rfl;subst e;clear hb hK;dsimp only at en
 let Inv1:(Unit)->Nat->Vs->St->Prop:=λj i vs' S'=>E6 λk' b' u' l' h' v'=>A4 (S'=⟨k',b',u',l',h',v',S.p,S.m⟩) (S.k.le k') (Vs.Sub [("script",.ref sa),("lot",.ref lo),("heap",.ref L.h),("nodes",.ref no),("pairs",.ref pa),("former",.ref fo)] vs') (E4 λpar aj kn us=>HR B L k' b' u' l' h' v' (qL.take i) par aj kn us [] i/\HI (qL.take i) [] par aj kn us [])
 refine qi (λj:Unit=>(zf B no (as.map .ref)).src) Inv1 R.3 (zY (λj:Unit=>zf B no (as.map .ref)) ?_) (λj=>zr _ en (by rfl) (.inl rfl)) ?_ ?_ ?_
 ·w_fin;exact⟨(),rfl,kZ aH,S.k,S.b,S.u,S.l,S.h,S.v,rfl,Mp.le_refl _,Vs.Sub.refl _,[],[],[],_,H,HI.nil⟩
 ·rintro j i vs' S' ⟨k',b',u',l',h',v',rfl,le,_⟩;exact kZ aH
 ·rintro j i vs' S' cW bg aQ ⟨k',b',u',l',h',v',rfl,le,sub,par,aj,kn,us,H1,I1⟩ bZ;refine zJ bZ λbo v hv bG=>?_;obtain rfl:=bo;obtain rfl:=bG;refine jT (sub.snoc (x:="node") (by rfl) v) ?_;have' hlen:as.length=3:=hN.1;have aC:i<3:=by have' this:i<(as.map Value.ref).length:=aQ;rw[List.length_map]at this;exact jx this hlen
  refine Od (zkv aC) λx e1 hx dS e2=>?_;have fY:(as.map Value.ref)[i]? = some v:=hv;rw[List.getElem?_map]at fY;refine zV (Option.map_eq_some_iff.mp fY) λa ha cA=>?_;obtain rfl:=cA;refine gs ((hN.2 i a _ ha e1).mono le) λt tK tx ws cj pg=>?_;obtain rfl:=cj;cases pg;have' u1:_:=H1.3;refine aB H1.4 λth u2=>?_;dsimp only[List.cons_append,List.nil_append];w_fin;o_unpack zaZ;refine ao (zcO (R.less (jZ rfl)) H1 I1 (Iy aC rfl) hx tK (ae M3 (Us aC rfl)) dS λv k2 b2 u2 l2 h2 v2 oh mP DY tO bt H2 I2=>?_);w_fin;rw[<-e2]at H2 I2;exact⟨k2,b2,u2,l2,h2,v2,rfl,Mp.le_trans le bt,Vs.Sub.app _ _,oh,mP,DY,tO,H2,I2⟩
 ·rintro j vs' S' ⟨k',b',u',l',h',v',rfl,le,sub,par,aj,kn,us,H1,I1⟩;have hlen:(zf B no (as.map .ref)).src.n=3:=by
   refine(?_:(as.map Value.ref).length=3);rw[List.length_map];exact hN.1
  rw[hlen]at H1 I1;exact h vs' k' b' u' l' h' v' le ⟨par,aj,kn,us,as,H1,I1,Lo.mono le,aH,hN.mono le⟩ sub
end
section
set_option genSizeOf false
set_option genInjectivity false
variable {B:Bs} {A:Around} {S:St}
variable {L:HL} {nds:List Nd} {ps:List (Nat × Nat)} {par:List Nat} {aj:List (List Nat)} {kn:List (Nd × Nat)} {us:Nat->List Nat} {wt:List Nat} {ne:Nat} {lo no:Addr}
theorem Lw.aO(H:Lw B L lo no S nds ps ne):no≠lo:=λe=>by
 refine yn H.ex λpar aj kn us as ZZ ZZ Lo aH ZZ=>?_;obtain⟨es,kvs,ra,i,t,h1,_⟩:=Lo.ex;subst e;rw[h1]at aH;injection aH with zz1;injection zz1
theorem Lw.to(H:Lw B L lo no S nds ps ne)(le:S.k.le S'.k)(e1:S'.b=S.b)(e2:S'.u=S.u)(e3:S'.l=S.l)(e4:S'.h=S.h)(e5:S'.v=S.v)(e6:S'.m lo=S.m lo)(e7:S'.m no=S.m no):Lw B L lo no S' nds ps ne:=by
 refine yn H.ex λpar aj kn us as H1 I Lo aH hN=>?_;obtain⟨k',b',u',l',h',v',p',m'⟩:=S';dsimp only at *;subst e1 e2 e3 e4 e5;exact⟨par,aj,kn,us,as,H1.mono le,I,(Lo.mono le).at e6,e7.trans aH,hN.mono le⟩
theorem Gz(R:zC 1 A)(H:Lw B L lo no S nds ps ne)(hm:0<many)(h:∀(x:Nat) t m',x<many->Lw B L lo no ⟨S.k,S.b,S.u,S.l,S.h,S.v,S.p,m'⟩ nds ps ne->(∀a,a≠lo->m' a=S.m a)->Q (.int (x:Nat) t) ⟨S.k,S.b,S.u,S.l,S.h,S.v,S.p,m'⟩):V B A S (call (.ref 505) [.ref lo,.int many t0]) Q:=by
 have' aO:_:=H.aO;refine yn H.ex λpar aj kn us as H1 I Lo aH hN=>?_;exact qR R Lo hm λx t es hx L1=>h x t _ hx ⟨par,aj,kn,us,as,H1,I,L1,(zb _ _ aO).trans aH,hN⟩ λa ha=>zb _ _ ha
theorem NQ(R:zC 7 A)(H:Lw B L lo no S nds ps ne)(hn:ne<9000)(bY:nds.length<12)(h0:0<nds.length)(h:∀k' b' u' l' h' v' m' bW,S.k.le k'->(bW=nds\/∃z,bW=nds++[z])->Lw B L lo no ⟨k',b',u',l',h',v',S.p,m'⟩ bW ps (ne+1)->(∀a,a≠lo->a≠no->m' a=S.m a)->Q .none ⟨k',b',u',l',h',v',S.p,m'⟩):V B A S (call (.ref 510) [.ref lo,.ref L.h,.ref no]) Q:=by
 refine yn H.ex λpar aj kn us as H1 I Lo aH hN=>?_;exact Gx R Lo H1 I hn bY h0 aH hN λk' b' u' l' h' v' m' par' aX dZ cw BK bW le e H2 I2 L2 cC FT ho=>h k' b' u' l' h' v' m' bW le e ⟨par',aX,dZ,cw,BK,H2,I2,L2,cC,FT⟩ ho
theorem zeN(hK:B.K.lookup 525=some ⟨oc,od,.func fd,cR⟩)(hb:fd.body = .stmts (s0::s1::s2::s3::r0))(R:zC 8 A)(en:En env fd.scope)(H:Lw B L lo no S qL [] 3)(h:∀vs' k' b' u' l' h' v' m' nds,S.k.le k'->Lw B L lo no ⟨k',b',u',l',h',v',S.p,m'⟩ nds [] 6->0<nds.length->nds.length<=6->(∀a,a≠lo->a≠no->m' a=S.m a)->Vs.Sub [("script",.ref sa),("lot",.ref lo),("heap",.ref L.h),("nodes",.ref no),("pairs",.ref pa),("former",.ref fo)] vs'->Q .next vs' ⟨k',b',u',l',h',v',S.p,m'⟩):
  W B A true env [("script",.ref sa),("lot",.ref lo),("heap",.ref L.h),("nodes",.ref no),("pairs",.ref pa),("former",.ref fo)] S (exec s3 env) Q:=by
 have' e:_=fd:=j3 hK (by delta Bs.K;k_is);subst e;have' e:_:=jE rfl hb;have e:=at_ 3 e rfl rfl;subst e;clear hb hK;dsimp only at en
 let Inv1:(Addr × Nat × Tok × Tok × Tok)->Nat->Vs->St->Prop:=λj i vs' S'=>E8 λk' b' u' l' h' v' m' nds=>A8 (S'=⟨k',b',u',l',h',v',S.p,m'⟩) (S.k.le k') (k' j.1=some (.is (yb (min j.2.1 3) j.2.2.1 j.2.2.2.1 j.2.2.2.2))) (Vs.Sub [("script",.ref sa),("lot",.ref lo),("heap",.ref L.h),("nodes",.ref no),("pairs",.ref pa),("former",.ref fo)] vs') (Lw B L lo no ⟨k',b',u',l',h',v',S.p,m'⟩ nds [] (3+i)) (0<nds.length) (nds.length<=3+i) (∀a,a≠lo->a≠no->m' a=S.m a)
 refine qi (λj:Addr × Nat × Tok × Tok × Tok=>(ja B j.1 (min j.2.1 3) j.2.2.1 j.2.2.2.1 j.2.2.2.2 (q6 rfl)).src) Inv1 R.3 (zY (λj:Addr × Nat × Tok × Tok × Tok=>ja B j.1 (min j.2.1 3) j.2.2.1 j.2.2.2.1 j.2.2.2.2 (q6 rfl)) ?_) (λj=>zr _ en (by rfl) (.inl rfl)) ?_ ?_ ?_
 ·w_fin;o_unpack qP;o_unpack jq;refine ao (Gz (many:=3) (R.less (by decide)) H (by decide) λx t m1 hx H1 ho=>?_);w_fin;refine ao (yO λt1=>?_);w_fin;obtain⟨y,hy1,hy2⟩:∃y:Nat,(1:Int)+(x:Int)=(y:Int)/\y<=3:=⟨1+x,by exact Ut,by exact Uv hx⟩;refine ae hy1 ?_;refine ao (ql (n:=y) λa k' u v cu hk aH=>?_);dsimp only[St.put,St.to,St.get]at cu hk |-;have em:min y 3=y:=Iz hy2;refine⟨(a,y,u,t1,v),by rfl,?_,k',S.b,S.u,S.l,S.h,S.v,m1,qL,rfl,cu,?_,Vs.Sub.refl _,H1.to cu rfl rfl rfl rfl rfl rfl rfl,by decide,by decide,λa ha ZZ=>ho a ha⟩
  ·refine(?_:St.has _ a (.is (yb (min y 3) _ _ _)));exact ae em (gk hk)
  ·refine(?_:k' a=some (.is (yb (min y 3) _ _ _)));exact ae em hk
 ·rintro j i vs' S' ⟨k',b',u',l',h',v',m',nds,rfl,le,hk,_⟩;exact gk hk
 ·rintro j i vs' S' cW bg aQ ⟨k',b',u',l',h',v',m',nds,rfl,le,hk,sub,H1,n0,n1,ho⟩ bZ;refine zJ bZ λbo v hv bG=>?_;obtain rfl:=bo;obtain rfl:=bG;refine jT (sub.snoc (x:="lap") (by rfl) v) ?_;have aC:i<3:=by have' this:i<min j.2.1 3:=aQ;exact IA this
  dsimp only[List.cons_append,List.nil_append];w_fin;o_unpack wW;refine ao (NQ (R.less (jZ rfl)) H1 (Uw aC) (Ux n1 aC) n0 λk2 b2 u2 l2 h2 v2 m2 sU bt e2 H2 fF=>?_);w_fin;dsimp only at bt;refine⟨k2,b2,u2,l2,h2,v2,m2,sU,rfl,Mp.le_trans le bt,bt _ _ hk,Vs.Sub.app _ _,H2,?_,?_,λa ha hb=>(fF a ha hb).trans (ho a ha hb)⟩
  ·rcases e2 with rfl | ⟨z,rfl⟩
   ·exact n0
   ·simp
  ·rcases e2 with rfl | ⟨z,rfl⟩
   ·exact Uy n1
   ·exact ae Ki (ae Kj (Uz n1))
 ·rintro j vs' S' ⟨k',b',u',l',h',v',m',nds,rfl,le,hk,sub,H1,n0,n1,ho⟩;have hn:(ja B j.1 (min j.2.1 3) j.2.2.1 j.2.2.2.1 j.2.2.2.2 (q6 rfl)).src.n<=3:=by
   refine(?_:min j.2.1 3<=3);exact CV
  refine yn H1.ex λpar aj kn us as H1 I r1 r2 r3=>?_;exact h vs' k' b' u' l' h' v' m' nds le ⟨par,aj,kn,us,as,H1.more (UA hn) (by decide),I,r1,r2,r3⟩ n0 (UC n1 hn) ho sub
end
section
set_option genSizeOf false
set_option genInjectivity false
variable {B:Bs} {A:Around} {S:St}
variable {L:HL} {nds:List Nd} {ps:List (Nat × Nat)} {par:List Nat} {aj:List (List Nat)} {kn:List (Nd × Nat)} {us:Nat->List Nat} {wt:List Nat} {ne:Nat} {lo no:Addr}
theorem zkw(hK:B.K.lookup 525=some ⟨oc,od,.func fd,cR⟩)(hb:fd.body = .stmts (s0::s1::s2::s3::s4::s5::s6::s7::r0))(R:zC 8 A)(en:En env fd.scope)(eo:env.code = .ref 524)(ky:env.cells.lookup ("marks":Str)=some cc)(hT:S.m 522=some (.is (tabObj #[])))(C:CodeHd B.h0 524 522)(FU:B.h0.BuiltinsAt B.mg 522)(H:Lw B L lo no S nds ps ne)(h:∀K k' p' m' mk an,S.k.le k'->K.mt=mk->Lw B L lo no ⟨k',S.b,S.u,S.l,S.h,S.v,p',m'⟩ nds ps ne->S.m mk=none->mk≠522->m' mk=some (.dict [])->(∃bM,m' 522=some (.is (tabObj bM)))->(∀a,a≠mk->a≠522->m' a=S.m a)->KR B K L.h k' p' nds.length (λZZ=>none)->Zf (B.z [(cc,.ref mk)]) K k'->
   W B A true env [("script",.ref sa),("lot",.ref lo),("heap",.ref L.h),("nodes",.ref no),("pairs",.ref pa),("former",.ref fo),("marks",.ref mk),("analysis",.ref an),("keeper",.ref K.kp)] ⟨k',S.b,S.u,S.l,S.h,S.v,p',m'⟩ (execs r0 env) Q):
  W B A true env [("script",.ref sa),("lot",.ref lo),("heap",.ref L.h),("nodes",.ref no),("pairs",.ref pa),("former",.ref fo)] S (execs (s4::s5::s6::s7::r0) env) Q:=by
 have' e:_=fd:=j3 hK (by delta Bs.K;k_is);subst e;have' e:_:=jE rfl hb;have e1:=at_ 4 e rfl rfl;have e2:=at_ 5 e rfl rfl;have e3:=at_ 6 e rfl rfl;have e4:=at_ 7 e rfl rfl;have e:=at_ 3 e rfl rfl;subst e1 e2 e3 e4;clear hb hK;dsimp only at en;w_fin;refine yi (qA en (by rfl)) ?_;refine zN ?_;w_fin;refine yD (r:=.m) λmk oS=>?_;o_reads;w_fin;o_unpack QM;have nD:S.m mk=none:=oS .m;have FV:mk≠522:=λe=>by rw[e,hT]at nD;injection nD
 refine ao (zll .p (zlP _) (zlQ _) λan ad hx hd aO=>?_);have' lg:S.p ad=none:=hd .p;have' dg:S.k an=none:=hx .k;o_reads;have' aU:S.k.le (upd S.k an (.is (zd 45 ad))):=Mp.av dg;have' BQ:_:=za S.k an (.is (zd 45 ad));generalize upd S.k an (.is (zd 45 ad))=k1 at aU BQ |-;have' vZ:_:=za S.p ad (.attrs []);generalize upd S.p ad (.attrs [])=p1 at vZ |-;w_fin;refine ze (Kq _ _) λct k2 bt lu ZZ=>?_;dsimp only[St.put,St.to,St.get]at bt lu |-;refine jU R.3 (.inl (gk lu)) (by rfl) ?_;refine z8 (A:=A) en (by rfl) (.inl rfl) (z8 en (by rfl) (.inl rfl) ?_);dsimp only[List.map,assignEach,qk];w_means;refine jT (vs':=[("script",.ref sa),("lot",.ref lo),("heap",.ref L.h),("nodes",.ref no),("pairs",.ref pa),("former",.ref fo),("marks",.ref mk),("analysis",.ref an)]) (λx v q=>q) ?_;w_fin;refine zj ?_;refine zeH (c:=524) (P:=522) (ps := #[]) (clos:=[("marks",cc)]) en (by rfl) ?_ eo C ?_ trivial (by rfl) (by decide) FU λlam c' ocd ip t pm fe qual k3 bM aV lz dQ lG kB=>?_
 ·unfold closureFor cellOf;simp[ky]
 ·refine(?_:upd S.m mk (.dict []) 522=_);exact ae (zb _ _ (Ne.symm FV)) hT
 dsimp only at aV |-;have' nO:upd (upd S.m mk (.dict [])) 522 (.is (tabObj bM)) mk=some (.dict []):=by refine ae (zb _ _ FV) ?_;rw[za]
 have' nQ:upd (upd S.m mk (.dict [])) 522 (.is (tabObj bM)) 522=some (.is (tabObj bM)):=za _ _ _;have B9:∀a,a≠mk->a≠522->upd (upd S.m mk (.dict [])) 522 (.is (tabObj bM)) a=S.m a:=λa ha hb=>ae (zb _ _ hb) (ae (zb _ _ ha) rfl);generalize upd (upd S.m mk (.dict [])) 522 (.is (tabObj bM))=m1 at nO nQ B9 |-;have sV:=aV _ _ (bt _ _ BQ);w_fin;refine ao (xZ (r:=.p) (gk sV) vZ ?_);o_reads;have' AO:_:=za p1 ad (.attrs (zi [] "of_node" (.ref lam)));generalize upd p1 ad (.attrs (zi [] "of_node" (.ref lam)))=p2 at AO |-;w_fin;refine zj ?_;o_unpack wU;refine ao (gJ (r:=.p) (gk sV) AO ?_ (by simp[zi]));o_reads;have' AP:upd p2 ad (.attrs (zi (zi [] "of_node" (.ref lam)) "joined" (.ref 491))) ad=some (.attrs [("of_node",.ref lam),("joined",.ref 491)]):=za _ _ _;generalize upd p2 ad (.attrs (zi (zi [] "of_node" (.ref lam)) "joined" (.ref 491)))=p3 at AP |-;w_fin;o_unpack zcB;refine yn H.ex λpar aj kn us as H1 I Lo aH hN=>?_;have cQ:=Mp.le_trans aU (Mp.le_trans bt aV);have cZ:lo≠mk/\lo≠522:=by
  obtain⟨es,kvs,ra,i,t,q1,_⟩:=Lo.ex;exact⟨λe=>(by rw[e,nD]at q1;injection q1),λe=>(by rw[e,hT]at q1;injection q1 with zz1;injection zz1)⟩
 have iY:no≠mk/\no≠522:=⟨λe=>(by rw[e,nD]at aH;injection aH),λe=>(by rw[e,hT]at aH;injection aH with zz1;injection zz1)⟩;refine ao (zbq (mt:=mk) (R.less (jZ rfl)) (H1.mono cQ) sV AP λK k4 p4 aG FW AQ VK=>?_);have iZ:=Mp.le_trans cQ aG;rw[I.3]at VK;w_means;refine Sb.w (by assumption) ?_;refine h K k4 p4 m1 mk an iZ AQ ⟨par,aj,kn,us,as,H1.mono iZ,I,(Lo.mono iZ).at (B9 lo cZ.1 cZ.2),(B9 no iY.1 iY.2).trans aH,hN.mono iZ⟩ nD FV nO ⟨bM,nQ⟩ B9 VK ?_;refine⟨c',cc,ocd,ip,t,pm,fe,_,qual,_,_,_,?_,ae FW (aG _ _ lz),aG _ _ dQ,lG,kB,ae AQ (Kf.mpr rfl)⟩;exact⟨⟨_,_,_,_,_,rfl⟩,rfl,rfl,rfl,by decide,rfl,rfl,rfl,rfl,λZZ ZZ ZZ ZZ ZZ ZZ ZZ ZZ=>rfl⟩
end
section
set_option genSizeOf false
set_option genInjectivity false
variable {B:Bs} {A:Around} {S:St}
variable {L:HL} {nds:List Nd} {ps:List (Nat × Nat)} {par:List Nat} {aj:List (List Nat)} {kn:List (Nd × Nat)} {us:Nat->List Nat} {wt:List Nat} {ne:Nat} {lo no:Addr}
noncomputable def i9:List Int:=[0,1,2,3,4,10,11,12,13,14,20,21,22,23,24]
theorem zkx{i k:Nat}(hi:i<3)(hk:k<5):10*(i:Int)+(k:Int)∈i9:=by
 have' this:∀i<3,∀k<5,(10*((i:Nat):Int)+((k:Nat):Int))∈i9:=by decide
 exact this i hi k hk
theorem Qc{P:Value->Prop}:∀(prs kvs:List (Str × Value)),(∀x v,valueAt kvs x=some v->P v)->(∀q∈prs,P q.2)->∀x v,valueAt (merged kvs prs) x=some v->P v
 | [],kvs,h,_,x,v,e=>h x v e
 | (y,u)::r,kvs,h,h2,x,v,e=>by
  refine Qc r (PySem.stored kvs y u) (λx v e=>?_) (λq hq=>h2 q (.tail _ hq)) x v e;rw[jd]at e;split at e
  ·obtain rfl:=Option.some.inj e;exact h2 _ (.head _)
  ·exact h x v e
noncomputable def Qd(k:Mp)(v:Value):Prop:=∃a z t,v = .ref a/\k a=some (.tup [.int z t])/\z∈i9
open Classical in
noncomputable def sW(k:Mp)(kvs:List (Str × Value))(x:Str):List Int:=match valueAt kvs x with
 | some v=>if h:Qd k v then [h.choose_spec.choose] else []
 | none=>[]
theorem zly:(∀z∈sW k kvs x,z∈i9)/\(sW k kvs x).length<=1:=by
 unfold sW;split
 ·split
  ·rename_i h;exact⟨λz hz=>ae (Kf.mp hz) h.choose_spec.choose_spec.choose_spec.2.2,Kz _⟩
  ·exact⟨λz hz=>(by cases hz),Kt _⟩
 ·exact⟨λz hz=>(by cases hz),Kt _⟩
theorem zky(h:∀x v,valueAt kvs x=some v->Qd k v)(x:Str):(valueAt kvs x=none/\sW k kvs x=[])\/∃a us,valueAt kvs x=some (.ref a)/\k a=some (.tup us)/\IntsAre us (sW k kvs x):=by
 unfold sW;cases e:valueAt kvs x with
 | none=>exact .inl ⟨rfl,rfl⟩
 | some v =>
  have hm:=h x v e;dsimp only;refine ae (dif_pos hm) ?_;refine qv hm.choose_spec.choose_spec λt e1 e2 ZZ=>?_;exact .inr ⟨_,_,aR e1 rfl,e2,.cons _ _ .nil⟩
noncomputable def pZ:Value->Bool
 | .str _ _=>true
 | _=>false
theorem zkz(h:pZ v=true):∃o t,v = .str o t:=by
 cases v <;> first | exact⟨_,_,rfl⟩ | exact absurd h (by simp[pZ])
theorem zlz(P:Params):∃xs n,(hd.heap_1_39 P).lookup 483=some (wp xs n)/\xs.length=5/\xs.all pZ=true:=by
 refine⟨_,_,by k_is,by rfl,by rfl⟩
theorem yN.mono(h:yN k xs prs)(le:k.le k'):yN k' xs prs:=⟨h.1,λi v p e1 e2=>by refine Bg (h.2 i v p e1 e2) λa t h1 h2=>?_;exact⟨a,t,h1,le _ _ h2⟩⟩
theorem yN.snoc{k:Mp}{xs:List Value}{prs:List (Str × Value)}(h:yN k xs prs){a:Addr}{o:Str}{t:Tok}{v:Value}(ha:k a=some (.tup [.str o t,v])):yN k (xs++[.ref a]) (prs++[(o,v)]):=by
 refine⟨by simp[h.1],λi w p e1 e2=>?_⟩;rcases Vz i xs.length with hi | hi
 ·rw[List.getElem?_append_left hi]at e1;rw[List.getElem?_append_left (aR h.1 hi)]at e2;exact h.2 i w p e1 e2
 ·rw[List.getElem?_append_right hi]at e1;rw[List.getElem?_append_right (aR h.1 hi),<-h.1]at e2;have hz:i - xs.length=0:=by
   have' this:_:=(Kb.mp e1).1;simpa using this
  rw[hz]at e1 e2;obtain rfl:=Option.some.inj e1;obtain rfl:=Option.some.inj e2;exact⟨a,t,rfl,ha⟩
theorem zcU{i:Nat}(hK:B.K.lookup 525=some ⟨oc,od,.func fd,cR⟩)(hb:fd.body = .stmts (s0::s1::s2::s3::s4::s5::s6::s7 :: .For tg it (d0::d1::r1) [] pos::r0))(R:zC 8 A)(en:En env fd.scope)(H:Lw B L lo no S nds ps ne)(hi:i<3)(hm:S.m mk=some (.dict es))(D:DK (strKind B.prog B.w) es kvs)(hz:kvs.length<=5)(cZ:lo≠mk)(h:∀k' m' es' FX tb,S.k.le k'->Lw B L lo no ⟨k',S.b,S.u,S.l,S.h,S.v,S.p,m'⟩ nds ps ne->m' mk=some (.dict es')->yL B k' es' FX tb->(∀x,(∀z∈tb x,z∈i9)/\(tb x).length<=1)->(∀a,a≠lo->a≠mk->m' a=S.m a)->
   W B A true env [("script",.ref sa),("lot",.ref lo),("heap",.ref L.h),("nodes",.ref no),("pairs",.ref pa),("former",.ref fo),("marks",.ref mk),("analysis",.ref an),("keeper",.ref kp),("lap",.int (i:Nat) ti)] ⟨k',S.b,S.u,S.l,S.h,S.v,S.p,m'⟩ (execs r1 env) Q):
  W B A true env [("script",.ref sa),("lot",.ref lo),("heap",.ref L.h),("nodes",.ref no),("pairs",.ref pa),("former",.ref fo),("marks",.ref mk),("analysis",.ref an),("keeper",.ref kp),("lap",.int (i:Nat) ti)] S (execs (d0::d1::r1) env) Q:=by
 have' e:_=fd:=j3 hK (by delta Bs.K;k_is);subst e;have' e:_:=jE rfl hb;have e:=at_ 8 e rfl rfl;injection e with q1 q2 q3 q4 q5;injection q3 with e1 e';injection e' with e2 e';clear e' q1 q2 q4 q5;subst e1 e2;clear hb hK;dsimp only at en;have iY:no≠mk:=λe=>by
  refine yn H.ex λpar aj kn us as ZZ ZZ ZZ aH ZZ=>?_;rw[e,hm]at aH;injection aH with zz1;injection zz1
 w_fin;o_unpack zkk;refine ao (XJ (r:=.m) hm D (zS hz rfl) ?_);o_reads;have NR:=za S.m mk (.dict []);have da:∀a,a≠mk->upd S.m mk (.dict []) a=S.m a:=λa ha=>zb _ _ ha;generalize upd S.m mk (.dict [])=m1 at NR da |-;have' H1:Lw B L lo no ⟨S.k,S.b,S.u,S.l,S.h,S.v,S.p,m1⟩ nds ps ne:=H.to (Mp.le_refl _) rfl rfl rfl rfl rfl (da lo cZ) (da no iY);w_fin;o_unpack zcD;refine jg (zlz B.w.params) λops tZ FY sX FZ=>?_;have sj:∃n,B.h0.get? 483=some (wp ops n):=⟨tZ,B.X 483 _ FY⟩
 let Inv1:Nat->St->List Value->Prop:=λj S' l=>E3 λk4 m4 prs=>A7 (S'=⟨k4,S.b,S.u,S.l,S.h,S.v,S.p,m4⟩) (S.k.le k4) (Lw B L lo no ⟨k4,S.b,S.u,S.l,S.h,S.v,S.p,m4⟩ nds ps ne) (∀a,a≠lo->m4 a=m1 a) (yN k4 l prs) (prs.length<=j) (∀q∈prs,Qd k4 q.2)
 refine zba .k (gq B 483 ops sj) [("lot",.ref lo),("lap",.int (i:Nat) ti)]
  Inv1 en (by kernel_rfl) ⟨by decide,rfl,by decide,rfl,trivial⟩ R.3 (by refine(?_:ops.length<=_);exact Ou sX rfl) (zan ?_) (λenv2 bq=>zbw R.3 bq (by rfl) (by rfl) (.inr ⟨by rfl,by rfl⟩)) ?_ ?_ ?_ ?_
 ·w_fin;o_unpack xY;refine wq en (by rfl) (zlx _) ?_;w_fin;refine ao (zkr sj λe it o aO Aj oM ho=>?_);exact⟨e,it,o,_,rfl,aO,Aj,oM,ho,rfl,rfl,S.k,m1,[],rfl,Mp.le_refl _,H1,λa ha=>rfl,⟨rfl,λi v p h=>by injection h⟩,Kz _,λq hq=>by cases hq⟩
 ·intro j S' l hI;exact trivial
 ·intro j S' vs' bg bZ;refine JW bZ λbo t w ZZ bG=>?_;obtain rfl:=bo;obtain rfl:=bG;exact λy u q=>Vs.Sub.set (x:="op") (v:=w) (vs:=zi [("lot",.ref lo),("lap",.int (i:Nat) ti)] "k" (.int j t)) rfl y u (Vs.Sub.set (x:="k") rfl y u q)
 ·rintro env2 bq j S' l vs' bg F0 ⟨k4,m4,prs,rfl,aG,H4,pL,P4,Ca,M4⟩ fS;refine JW fS λcj t w hw eB=>?_;obtain rfl:=cj;obtain rfl:=eB;have' hj:j<5:=by have' this:j<ops.length:=F0;exact jx this sX
  obtain⟨o,NS,rfl⟩:∃o t,w = .str o t:=zkz (List.all_eq_true.mp FZ w (Kx hw));dsimp only[jA];refine ae (show zi (zi ([("lot",.ref lo),("lap",.int (i:Nat) ti)]:Vs) "k" (.int j t)) "op" (.str o NS)=([("lot",.ref lo),("lap",.int (i:Nat) ti),("k",.int j t),("op",.str o NS)]:Vs) from rfl) ?_;w_fin;o_unpack jq;refine ao (Gz (many:=2) (R.less (by decide)) H4 (by decide) λx tx m5 hx H5 Cb=>?_);have AR:∀a,a≠lo->m5 a=m1 a:=λa ha=>(Cb a ha).trans (pL a ha);w_fin;refine ao (xb ?_);refine zc ?_;cases hb:((x:Int) == 1) with
  | false =>
   refine jf rfl ?_;exact⟨Vs.Sub.refl _,k4,m5,prs,rfl,aG,H5,AR,P4,by exact JT Ca,M4⟩
  | true =>
   refine z7 rfl ?_;refine zN ?_;w_fin;refine zN ?_;w_fin;refine ao (Xc (IntMulOk.of_left (by decide +kernel)) λt2=>?_);w_fin;refine ao (yO λt3=>?_);w_fin;refine ze (Kv _) λc5 k5 aP Ac ZZ=>?_;dsimp only[St.put,St.to,St.get]at aP Ac |-;w_fin;refine ze (Kq _ _) λc6 k6 aZ kL ZZ=>?_;dsimp only[St.put,St.to,St.get]at aZ kL |-;have dE:=Mp.le_trans aP aZ;have' F1:Qd k6 (.ref c5):=⟨c5,_,_,rfl,aZ _ _ Ac,zkx hi hj⟩;refine⟨Vs.Sub.refl _,k6,m5,prs++[(o,.ref c5)],rfl,Mp.le_trans aG dE,H5.to dE rfl rfl rfl rfl rfl rfl rfl,AR,?_,ae Ki (ae Kj (Cz Ca)),λq hq=>?_⟩
   ·exact(P4.mono dE).snoc kL
   ·rcases Ko.mp hq with hq | hq
    ·refine JM (M4 q hq) λa z t e1 e2 e3=>?_;exact⟨a,z,t,e1,dE _ _ e2,e3⟩
    ·exact ae (Kf.mp hq) F1
 ·rintro S' l D ⟨k4,m4,prs,rfl,aG,H4,pL,P4,Ca,M4⟩ di;have' cm:k4 D=none:=di .k;have NT:prs.length<=5:=by
   have' this:(gq B 483 ops sj).n=ops.length:=rfl;exact Ks Ca (Kc sX)
  o_reads;have aP:k4.le (upd k4 D (.list l)):=Mp.av cm;have' hD:_:=za k4 D (.list l);generalize upd k4 D (.list l)=k5 at aP hD |-;w_fin;have' hm4:m4 mk=some (.dict []):=(pL mk (Ne.symm cZ)).trans NR;refine ao (gK R.3 hm4 (DK.nil _) hD (prs:=prs) ?_ (by simp;exact zS NT rfl) λes' D'=>?_)
  ·exact P4.mono aP
  o_reads;w_fin;have' NU:_:=merged_length_le ([]:List (Str × Value)) prs;have' eX:∀x v,valueAt (merged [] prs) x=some v->Qd k5 v:=Qc prs [] (λx v e=>by injection e) λq hq=>by
   refine JM (M4 q hq) λa z t e1 e2 e3=>?_;exact⟨a,z,t,e1,aP _ _ e2,e3⟩
  refine Sb.w (by assumption) ?_;refine h k5 _ es' (merged [] prs) (sW k5 (merged [] prs)) (Mp.le_trans aG aP) (H4.to aP rfl rfl rfl rfl rfl (zb _ _ cZ) (zb _ _ iY)) (za _ _ _) ⟨D',by simp at NU;exact bX NU NT,λx ZZ=>zky eX x⟩ (λx=>zly) λa ha hb=>?_;exact ae (zb _ _ hb) (ae (pL a ha) (ae (da a hb) rfl))
end
section
set_option genSizeOf false
set_option genInjectivity false
variable {B:Bs} {A:Around} {S:St}
variable {L:HL} {nds:List Nd} {ps:List (Nat × Nat)} {par:List Nat} {aj:List (List Nat)} {kn:List (Nd × Nat)} {us:Nat->List Nat} {wt:List Nat} {ne:Nat} {lo no:Addr}
structure Lm (B:Bs) (L:HL) (lo no:Addr) (S:St) (nds:List Nd) (ps:List (Nat × Nat)) (ne:Nat):Prop where
 ex:E6 λpar aj kn us wt as=>A5 (HR B L S.k S.b S.u S.l S.h S.v nds par aj kn us wt ne) (HI nds ps par aj kn us wt) (qb B S.k S.m lo) (S.m no=some (.list (as.map .ref))) (jl S.k as nds)
theorem Lw.lm(H:Lw B L lo no S nds ps ne):Lm B L lo no S nds ps ne:=by obtain⟨par,aj,kn,us,as,r⟩:=H.ex;exact⟨par,aj,kn,us,[],as,r⟩
theorem Lm.aO(H:Lm B L lo no S nds ps ne):no≠lo:=λe=>by
 obtain⟨par,aj,kn,us,wt,as,_,_,Lo,aH,_⟩:=H.ex;obtain⟨es,kvs,ra,i,t,h1,_⟩:=Lo.ex;subst e;rw[h1]at aH;injection aH with zz1;injection zz1
theorem Lm.to(H:Lm B L lo no S nds ps ne)(le:S.k.le S'.k)(e1:S'.b=S.b)(e2:S'.u=S.u)(e3:S'.l=S.l)(e4:S'.h=S.h)(e5:S'.v=S.v)(e6:S'.m lo=S.m lo)(e7:S'.m no=S.m no):Lm B L lo no S' nds ps ne:=by
 obtain⟨par,aj,kn,us,wt,as,H1,I,Lo,aH,hN⟩:=H.ex;obtain⟨k',b',u',l',h',v',p',m'⟩:=S';dsimp only at *;subst e1 e2 e3 e4 e5;exact⟨par,aj,kn,us,wt,as,H1.mono le,I,(Lo.mono le).at e6,e7.trans aH,hN.mono le⟩
theorem GA(R:zC 1 A)(H:Lm B L lo no S nds ps ne)(hm:0<many)(h:∀(x:Nat) t m',x<many->Lm B L lo no ⟨S.k,S.b,S.u,S.l,S.h,S.v,S.p,m'⟩ nds ps ne->(∀a,a≠lo->m' a=S.m a)->Q (.int (x:Nat) t) ⟨S.k,S.b,S.u,S.l,S.h,S.v,S.p,m'⟩):V B A S (call (.ref 505) [.ref lo,.int many t0]) Q:=by
 have' aO:_:=H.aO;obtain⟨par,aj,kn,us,wt,as,H1,I,Lo,aH,hN⟩:=H.ex;exact qR R Lo hm λx t es hx L1=>h x t _ hx ⟨par,aj,kn,us,wt,as,H1,I,L1,(zb _ _ aO).trans aH,hN⟩ λa ha=>zb _ _ ha
theorem ZS(H:Lm B L lo no S nds ps ne)(h:∀t,Q (.int nds.length t) S):V B A S (call (.builtin "len") ([]++[.ref no])) Q:=by
 obtain⟨par,aj,kn,us,wt,as,H1,I,Lo,aH,hN⟩:=H.ex;have' this:_:=I.1.1;refine zI (kZ aH) (by rewrite [List.length_map];refine ae hN.1 ?_;exact JS rfl this) λt=>?_;rewrite [List.length_map];refine ae hN.1 ?_;exact h t
theorem zcV(hK:B.K.lookup 525=some ⟨oc,od,.func fd,cR⟩)(hb:fd.body = .stmts (s0::s1::s2::s3::s4::s5::s6::s7 :: .For tg it (d0::d1::d2::d3::r1) [] pos::r0))(R:zC 8 A)(en:En env fd.scope)(H:Lw B L lo no S nds ps ne)(hn:ne<1000)(h0:0<nds.length)(fC:no≠pa)(hZ:S.m pa=some (.list pv))(hP:jv S.k pv ps)(hz:ps.length<=10)(h:∀k' b' u' l' h' v' m' qs nR,S.k.le k'->Lw B L lo no ⟨k',b',u',l',h',v',S.p,m'⟩ nds (ps++qs) (ne+2)->qs.length<=2->m' pa=some (.list nR)->jv k' nR (ps++qs)->(∀a,a≠lo->a≠pa->m' a=S.m a)->
   W B A true env [("script",.ref sa),("lot",.ref lo),("heap",.ref L.h),("nodes",.ref no),("pairs",.ref pa),("former",.ref fo),("marks",.ref mk),("analysis",.ref an),("keeper",.ref kp),("lap",.int (i:Nat) ti)] ⟨k',b',u',l',h',v',S.p,m'⟩ (execs r1 env) Q):
  W B A true env [("script",.ref sa),("lot",.ref lo),("heap",.ref L.h),("nodes",.ref no),("pairs",.ref pa),("former",.ref fo),("marks",.ref mk),("analysis",.ref an),("keeper",.ref kp),("lap",.int (i:Nat) ti)] S (execs (d2::d3::r1) env) Q:=by
 have' e:_=fd:=j3 hK (by delta Bs.K;k_is);subst e;have' e:_:=jE rfl hb;have e:=at_ 8 e rfl rfl;injection e with q1 q2 q3 q4 q5;have e1:=at_ 2 q3 rfl rfl;have e2:=at_ 3 q3 rfl rfl;clear q1 q2 q4 q5;subst e1 e2;clear hb hK;dsimp only at en;have kW:pa≠lo:=λe=>by
  refine yn H.ex λpar aj kn us as ZZ ZZ Lo ZZ ZZ=>?_;obtain⟨es,kvs,ra,i,t,q1,_⟩:=Lo.ex;rw[<-e,hZ]at q1;injection q1 with zz1;injection zz1
 w_fin
 let Inv1:(Addr × Nat × Tok × Tok × Tok)->Nat->Vs->St->Prop:=λj q vs' S'=>E9 λk' b' u' l' h' v' m' qs nR=>A9 (S'=⟨k',b',u',l',h',v',S.p,m'⟩) (S.k.le k') (k' j.1=some (.is (yb (min j.2.1 2) j.2.2.1 j.2.2.2.1 j.2.2.2.2))) (Vs.Sub [("script",.ref sa),("lot",.ref lo),("heap",.ref L.h),("nodes",.ref no),("pairs",.ref pa),("former",.ref fo),("marks",.ref mk),("analysis",.ref an),("keeper",.ref kp),("lap",.int (i:Nat) ti)] vs') (Lm B L lo no ⟨k',b',u',l',h',v',S.p,m'⟩ nds (ps++qs) (ne+q)) (qs.length=q) (m' pa=some (.list nR)) (jv k' nR (ps++qs)) (∀a,a≠lo->a≠pa->m' a=S.m a)
 refine qi (λj:Addr × Nat × Tok × Tok × Tok=>(ja B j.1 (min j.2.1 2) j.2.2.1 j.2.2.2.1 j.2.2.2.2 (q6 rfl)).src) Inv1 R.3 (zY (λj:Addr × Nat × Tok × Tok × Tok=>ja B j.1 (min j.2.1 2) j.2.2.1 j.2.2.2.1 j.2.2.2.2 (q6 rfl)) ?_) (λj=>zr _ en (by rfl) (.inl rfl)) ?_ ?_ ?_
 ·w_fin;o_unpack qP;o_unpack jq;refine ao (GA (many:=3) (R.less (by decide)) H.lm (by decide) λx t m1 hx H1 ho=>?_);w_fin;refine ao (ql (n:=x) λa k' u v cu hk aH=>?_);dsimp only[St.put,St.to,St.get]at cu hk |-;have em:min x 2=x:=UD hx;refine⟨(a,x,u,t,v),by rfl,?_,k',S.b,S.u,S.l,S.h,S.v,m1,[],pv,rfl,cu,?_,Vs.Sub.refl _,?_,rfl,(ho pa kW).trans hZ,?_,λa ha ZZ=>ho a ha⟩
  ·refine(?_:St.has _ a (.is (yb (min x 2) _ _ _)));exact ae em (gk hk)
  ·refine(?_:k' a=some (.is (yb (min x 2) _ _ _)));exact ae em hk
  ·rw[List.append_nil];exact H1.to cu rfl rfl rfl rfl rfl rfl rfl
  ·rw[List.append_nil];exact hP.mono cu
 ·rintro j q vs' S' ⟨k',b',u',l',h',v',m',qs,nR,rfl,le,hk,_⟩;exact gk hk
 ·rintro j q vs' S' cW bg aQ ⟨k',b',u',l',h',v',m',qs,nR,rfl,le,hk,sub,H1,lq,sY,Cd,ho⟩ bZ;refine zJ bZ λbo v hv bG=>?_;obtain rfl:=bo;obtain rfl:=bG;refine jT (sub.snoc (x:="turn") (by rfl) v) ?_;have aC:q<2:=by have' this:q<min j.2.1 2:=aQ;exact IA this
  dsimp only[List.cons_append,List.nil_append];w_fin;refine yQ (names:=["one","other"]) (qA en (by rfl)) R.3 ?_;refine zN ?_;w_fin;o_unpack jq;o_unpack yo;refine ao (ZS H1 λt1=>?_);w_fin;refine ao (GA (many:=nds.length) (R.less (by decide)) H1 h0 λx tx m2 hx H2 fF=>?_);w_fin;o_unpack jq;o_unpack yo;refine ao (ZS H2 λt2=>?_);w_fin;refine ao (GA (many:=nds.length) (R.less (by decide)) H2 h0 λy ty m3 hy H3 sZ=>?_);dsimp only at fF sZ;have AU:∀a,a≠lo->m3 a=m' a:=λa ha=>(sZ a ha).trans (fF a ha);w_fin;refine ze (Kq _ _) λct k4 aG lu ZZ=>?_;dsimp only[St.put,St.to,St.get]at aG lu |-;refine⟨ct,_,rfl,gk lu,rfl,?_⟩;refine yR (A:=A) en (by rfl) (.inl rfl) (yR (A:=A) en (by rfl) (.inl rfl) ?_);dsimp only[List.map,qk];w_means;refine jT (vs':=[("script",.ref sa),("lot",.ref lo),("heap",.ref L.h),("nodes",.ref no),("pairs",.ref pa),("former",.ref fo),("marks",.ref mk),("analysis",.ref an),("keeper",.ref kp),("lap",.int (i:Nat) ti),("turn",v),("other",.int (y:Nat) ty),("one",.int (x:Nat) tx)]) (λx v q=>q) ?_;have' H4:_:=H3.to (S':=⟨k4,b',u',l',h',v',S.p,m3⟩) aG rfl rfl rfl rfl rfl rfl rfl;obtain⟨par,aj,kn,us,wt,as,kX,I4,ua,bC,ub⟩:=H4.ex;dsimp only at kX ua bC ub;have' u1:_:=kX.3;refine aB kX.4 λth u2=>?_;w_fin;o_unpack Gn;refine zN ?_;w_fin;refine ze (Kq _ _) λcr k5 aP rT ZZ=>?_;dsimp only[St.put,St.to,St.get]at aP rT |-;w_fin;refine ao (zag (R.less (jZ rfl)) (kX.mono aP) I4 (UE hn aC) hx hy λr k6 u6 l6 h6 v6 s8 nE vH wt6 aZ F2 I6=>?_);dsimp only at aZ;have dE:=Mp.le_trans aP aZ;have' oB:_:=Mp.le_trans aG dE;have oT:m3 pa=some (.list nR):=(AU pa kW).trans sY;w_fin;o_unpack jS;refine zN ?_;w_fin;refine ze (Kq _ _) λcp k7 bO NV ZZ=>?_;dsimp only[St.put,St.to,St.get]at bO NV |-;w_fin;have' NW:_:=Cd.1;rw[List.length_append]at NW;refine ao (jR (r:=.m) oT (UG NW hz lq aC) ?_);o_reads;w_fin;have ng:=Mp.le_trans oB bO;have' AV:lo≠pa:=Ne.symm kW;have' hP7:_:=(Cd.mono ng).snoc (x:=x) (y:=y) NV;refine⟨k7,b',u6,l6,h6,v6,_,qs++[(x,y)],_,rfl,Mp.le_trans le ng,ng _ _ hk,Vs.Sub.app _ _,?_,ae Ki (ae Kj (ae lq rfl)),za _ _ _,by rw[<-List.append_assoc];exact hP7,λa ha hb=>ae (zb _ _ hb) (ae (AU a ha) (ho a ha hb))⟩;rw[<-List.append_assoc];exact⟨s8,nE,kn,vH,wt6,as,F2.mono bO,I6,(ua.mono (Mp.le_trans dE bO)).at (zb _ _ AV),(zb _ _ fC).trans bC,ub.mono (Mp.le_trans dE bO)⟩
 ·rintro j vs' S' ⟨k',b',u',l',h',v',m',qs,nR,rfl,le,hk,sub,H1,lq,sY,Cd,ho⟩;have oM:(ja B j.1 (min j.2.1 2) j.2.2.1 j.2.2.2.1 j.2.2.2.2 (q6 rfl)).src.n<=2:=by
   refine(?_:min j.2.1 2<=2);exact CV
  w_means;refine jT sub ?_;obtain⟨par,aj,kn,us,wt,as,kX,I4,ua,bC,ub⟩:=H1.ex;dsimp only at kX ua bC ub;have' u1:_:=kX.3;refine aB kX.4 λth u2=>?_;w_fin;o_unpack QW;refine ao (Gu (R.less (jZ rfl)) kX I4 (UH hn oM) λk6 u6 l6 h6 v6 s8 nE kn6 vH aZ F2 I6=>?_);dsimp only at aZ;w_fin;refine Sb.w (by assumption) ?_;exact h k6 b' u6 l6 h6 v6 m' qs nR (Mp.le_trans le aZ) ⟨s8,nE,kn6,vH,as,F2.more (UJ oM) (UK hn),I6,ua.mono aZ,bC,ub.mono aZ⟩ (HZ lq oM) sY (Cd.mono aZ) ho
end
section
set_option genSizeOf false
set_option genInjectivity false
variable {B:Bs} {A:Around} {S:St}
variable {L:HL} {nds:List Nd} {ps:List (Nat × Nat)} {par:List Nat} {aj:List (List Nat)} {kn:List (Nd × Nat)} {us:Nat->List Nat} {wt:List Nat} {ne:Nat} {lo no:Addr}
theorem zeO(hK:B.K.lookup 525=some ⟨oc,od,.func fd,cR⟩)(hb:fd.body = .stmts (s0::s1::s2::s3::s4::s5::s6::s7 :: .For tg it (d0::d1::d2::d3::d4::r1) [] pos::r0))(R:zC 8 A)(en:En env fd.scope)(H:Lw B L lo no S nds ps ne)(hn:ne<1000)(h0:0<nds.length)(bY:nds.length<12)(h:∀k' b' u' l' h' v' m' bW,S.k.le k'->(bW=nds\/∃z,bW=nds++[z])->Lw B L lo no ⟨k',b',u',l',h',v',S.p,m'⟩ bW ps (ne+1)->(∀a,a≠lo->a≠no->m' a=S.m a)->
   W B A true env [("script",.ref sa),("lot",.ref lo),("heap",.ref L.h),("nodes",.ref no),("pairs",.ref pa),("former",.ref fo),("marks",.ref mk),("analysis",.ref an),("keeper",.ref kp),("lap",.int (i:Nat) ti)] ⟨k',b',u',l',h',v',S.p,m'⟩ (execs r1 env) Q):
  W B A true env [("script",.ref sa),("lot",.ref lo),("heap",.ref L.h),("nodes",.ref no),("pairs",.ref pa),("former",.ref fo),("marks",.ref mk),("analysis",.ref an),("keeper",.ref kp),("lap",.int (i:Nat) ti)] S (execs (d4::r1) env) Q:=by
 have' e:_=fd:=j3 hK (by delta Bs.K;k_is);subst e;have' e:_:=jE rfl hb;have e:=at_ 8 e rfl rfl;injection e with q1 q2 q3 q4 q5;have e1:=at_ 3 q3 rfl rfl;have e2:=at_ 4 q3 rfl rfl;clear q1 q2 q4 q5;subst e2;clear hb hK;dsimp only at en;w_fin;o_unpack jq;refine ao (Gz (many:=3) (R.less (by decide)) H (by decide) λx tx m1 hx H1 da=>?_);w_fin;refine ao (xb ?_);refine zc ?_;cases hb:((x:Int) == 2) with
 | false =>
  refine jf rfl ?_;w_fin;refine yn H1.ex λpar aj kn us as HR1 I r1 r2 r3=>?_;refine Sb.w (by assumption) ?_;exact h S.k _ _ _ _ _ m1 nds (Mp.le_refl _) (.inl rfl) ⟨par,aj,kn,us,as,HR1.more (Lq _) (Zl hn rfl),I,r1,r2,r3⟩ λa ha ZZ=>da a ha
 | true =>
  refine z7 rfl ?_;w_fin;o_unpack wW;refine ao (NQ (R.less (jZ rfl)) H1 (Iy hn rfl) bY h0 λk2 b2 u2 l2 h2 v2 m2 sU bt e2 H2 fF=>?_);w_fin;refine Sb.w (by assumption) ?_;exact h k2 b2 u2 l2 h2 v2 m2 sU bt e2 H2 λa ha hb=>(fF a ha hb).trans (da a ha)
theorem zby{fd:FuncData}{oc:Value}{od:Option Addr}{cR:Array (Option Value)}{s0 s1 s2 s3 s4 s5 s6 s7 d0 d1 d2 d3 d4 d5:Stmt}{r0 r1:List Stmt}{tg it:Expr}{pos:Pos}{sa pa fo mk an cc:Addr}{i:Nat}{ti:Tok}{K:KL}{val:Nat->Option (List Int)}{es:List DictEntry}{kvs:List (Str × Value)}{tb:Str->List Int}{fl:List (List Int)}(hK:B.K.lookup 525=some ⟨oc,od,.func fd,cR⟩)(hb:fd.body = .stmts (s0::s1::s2::s3::s4::s5::s6::s7 :: .For tg it (d0::d1::d2::d3::d4::d5::r1) [] pos::r0))(R:zC 8 A)(en:En env fd.scope)(ky:env.cells.lookup ("marks":Str)=some cc)(hz:B.fz=[])(UR:HR B L S.k S.b S.u S.l S.h S.v nds par aj kn us [] ne)(I:HI nds ps par aj kn us [])(VK:KR B K L.h S.k S.p par.length val)(hl:Zf (B.z [(cc,.ref mk)]) K S.k)(nQ:K.mt=mk)(hm:S.m mk=some (.dict es))(T:yL B S.k es kvs tb)(hU:∀c x,x∈(val c).getD []->x∈i9)(cI:∀x,(∀z∈tb x,z∈i9)/\(tb x).length<=1)(hF:∀r x,(∃c,root par c=r/\x∈(val c).getD [])↔∃m,m<nds.length/\root par m=r/\x∈fl.getD m [])(h:∀k' p' bD,S.k.le k'->KR B K L.h k' p' par.length bD->(∀c,c<nds.length->par.getD c 0=c->bD c≠none/\∀x,x∈(bD c).getD []↔qp nds (root par) tb (λm=>fl.getD m []) c x)->(∀c x,x∈(bD c).getD []->x∈i9)->(∀c,bD c≠none->c<nds.length/\par.getD c 0=c)->
   W B A true env [("script",.ref sa),("lot",.ref lo),("heap",.ref L.h),("nodes",.ref no),("pairs",.ref pa),("former",.ref fo),("marks",.ref mk),("analysis",.ref an),("keeper",.ref K.kp),("lap",.int (i:Nat) ti)] ⟨k',S.b,S.u,S.l,S.h,S.v,p',S.m⟩ (execs r1 env) Q):
  W B A true env [("script",.ref sa),("lot",.ref lo),("heap",.ref L.h),("nodes",.ref no),("pairs",.ref pa),("former",.ref fo),("marks",.ref mk),("analysis",.ref an),("keeper",.ref K.kp),("lap",.int (i:Nat) ti)] S (execs (d5::r1) env) Q:=by
 have' e:_=fd:=j3 hK (by delta Bs.K;k_is);subst e;have' e:_:=jE rfl hb;have e:=at_ 8 e rfl rfl;injection e with q1 q2 q3 q4 q5;have e1:=at_ 4 q3 rfl rfl;have e2:=at_ 5 q3 rfl rfl;clear q1 q2 q4 q5;subst e2;clear hb hK;dsimp only at en;obtain⟨vd,t,eQ,eE,v2,v3,v4,v5⟩:=VK.2;have' v1:_:=VK.1;w_fin;o_unpack JG;refine zlX hz ky (by rfl) (zal (B:=B.z [(cc,.ref mk)]) (U:=i9) (fm:=λm=>fl.getD m []) (tb:=tb) (R.less (jZ rfl)) (UR.cv _) I (VK.cv _) hl (ae nQ hm) (T.cv _) hU (λx=>(cI x).1) (by decide) (λx=>Ks (cI x).2 (by decide)) hF λk' p' bD le VK' g1 g2 g3=>?_);w_fin;refine Sb.w (by assumption) ?_;exact h k' p' bD le VK'.cv' g1 g2 g3
end
section
set_option genSizeOf false
set_option genInjectivity false
variable {B:Bs} {A:Around} {S:St}
variable {L:HL} {nds:List Nd} {ps:List (Nat × Nat)} {par:List Nat} {aj:List (List Nat)} {kn:List (Nd × Nat)} {us:Nat->List Nat} {wt:List Nat} {ne:Nat} {lo no:Addr}
theorem zeP{fd:FuncData}{oc:Value}{od:Option Addr}{cR:Array (Option Value)}{s0 s1 s2 s3 s4 s5 s6 s7 d0 d1 d2 d3 d4 d5 d6:Stmt}{r0 r1:List Stmt}{tg it:Expr}{pos:Pos}{sa pa fo mk an:Addr}{i:Nat}{ti:Tok}{K:KL}{val:Nat->Option (List Int)}{es:List DictEntry}{kvs:List (Str × Value)}{tb:Str->List Int}{as:List Addr}{pv fv:List Value}{fl:List (List Int)}(hK:B.K.lookup 525=some ⟨oc,od,.func fd,cR⟩)(hb:fd.body = .stmts (s0::s1::s2::s3::s4::s5::s6::s7 :: .For tg it (d0::d1::d2::d3::d4::d5::d6::r1) [] pos::r0))(R:zC 8 A)(en:En env fd.scope)(I:HI nds ps par aj kn us [])(aH:S.m no=some (.list (as.map .ref)))(hN:jl S.k as nds)(hZ:S.m pa=some (.list pv))(hP:jv S.k pv ps)(hzp:ps.length<=100)(rW:S.k fo=some (.list fv))(hF:yX S.k fv fl)(Ax:fl.length<=nds.length)(hm:S.m mk=some (.dict es))(T:yL B S.k es kvs tb)(hU:∀x,∀z∈tb x,z∈i9)(cI:∀l∈fl,∀z∈l,z∈i9)(h:∀nF k' out fJ g,S.k.le k'->k' nF=some (.list out)->yX k' out fJ->fJ.length=nds.length->Rep nds ps g->yW nds ps g->(∀i,i<nds.length->(fJ.getD i []).Pairwise (· < ·)/\∀z,z∈fJ.getD i []↔qp nds g tb (λn=>fl.getD n []) (g i) z)->
   W B A true env [("script",.ref sa),("lot",.ref lo),("heap",.ref L.h),("nodes",.ref no),("pairs",.ref pa),("former",.ref nF),("marks",.ref mk),("analysis",.ref an),("keeper",.ref K.kp),("lap",.int (i:Nat) ti)] (S.to .k k') (execs r1 env) Q):
  W B A true env [("script",.ref sa),("lot",.ref lo),("heap",.ref L.h),("nodes",.ref no),("pairs",.ref pa),("former",.ref fo),("marks",.ref mk),("analysis",.ref an),("keeper",.ref K.kp),("lap",.int (i:Nat) ti)] S (execs (d6::r1) env) Q:=by
 have' e:_=fd:=j3 hK (by delta Bs.K;k_is);subst e;have' e:_:=jE rfl hb;have e:=at_ 8 e rfl rfl;injection e with q1 q2 q3 q4 q5;have e1:=at_ 5 q3 rfl rfl;have e2:=at_ 6 q3 rfl rfl;clear q1 q2 q4 q5;subst e2;clear hb hK;dsimp only at en;w_fin;o_unpack G2;o_unpack QN;refine ao (zbu (R.less (by decide)) I.1 aH hN hZ hP (λa b q=>⟨(I.5 a b q).1,(I.5 a b q).2.1⟩) hzp λc k1 out ls aU hc hI Aw hR hC=>?_);o_reads;w_fin;refine ao (zeF (U:=i9) (R.less (by decide)) I.1 aH (hN.mono aU) hc hI Aw hR.1 (aU _ _ rW) (hF.mono aU) Ax hm (T.mono aU) hU cI (by decide) λc2 k2 F3 fl2 bt BA hF2 dQ hg2=>?_);dsimp only[St.put,St.to,St.get]at bt |-;w_fin;refine Sb.w (by assumption) ?_;exact h c2 k2 F3 fl2 (lf ls) (Mp.le_trans aU bt) BA hF2 dQ hR hC hg2
theorem zcW{fd:FuncData}{oc:Value}{od:Option Addr}{cR:Array (Option Value)}{s0 s1 s2 s3 s4 s5 s6 s7 d0 d1 d2 d3 d4 d5 d6 d7:Stmt}{r0 r1:List Stmt}{tg it:Expr}{pos:Pos}{sa pa fo mk an:Addr}{i:Nat}{ti:Tok}{K:KL}{val:Nat->Option (List Int)}{fv:List Value}{fl:List (List Int)}{as:List Addr}(hK:B.K.lookup 525=some ⟨oc,od,.func fd,cR⟩)(hb:fd.body = .stmts (s0::s1::s2::s3::s4::s5::s6::s7 :: .For tg it (d0::d1::d2::d3::d4::d5::d6::d7::r1) [] pos::r0))(R:zC 8 A)(en:En env fd.scope)(UR:HR B L S.k S.b S.u S.l S.h S.v nds par aj kn us [] ne)(I:HI nds ps par aj kn us [])(VK:KR B K L.h S.k S.p par.length val)(aH:S.m no=some (.list (as.map .ref)))(hN:jl S.k as nds)(rW:S.k fo=some (.list fv))(hF:yX S.k fv fl)(Ax:fl.length=nds.length)(AW:∀i,i<nds.length->(fl.getD i []).Pairwise (· < ·))(hv:∀c,c<nds.length->par.getD c 0=c->val c≠none)(heq:∀i,i<nds.length->∀x,x∈fl.getD i []↔x∈(val (root par i)).getD [])(h:∀k',S.k.le k'->
   W B A true env [("script",.ref sa),("lot",.ref lo),("heap",.ref L.h),("nodes",.ref no),("pairs",.ref pa),("former",.ref fo),("marks",.ref mk),("analysis",.ref an),("keeper",.ref K.kp),("lap",.int (i:Nat) ti)] (S.to .k k') (execs r1 env) Q):
  W B A true env [("script",.ref sa),("lot",.ref lo),("heap",.ref L.h),("nodes",.ref no),("pairs",.ref pa),("former",.ref fo),("marks",.ref mk),("analysis",.ref an),("keeper",.ref K.kp),("lap",.int (i:Nat) ti)] S (execs (d7::r1) env) Q:=by
 have' e:_=fd:=j3 hK (by delta Bs.K;k_is);subst e;have' e:_:=jE rfl hb;have e:=at_ 8 e rfl rfl;injection e with q1 q2 q3 q4 q5;have e1:=at_ 6 q3 rfl rfl;have e2:=at_ 7 q3 rfl rfl;clear q1 q2 q4 q5;subst e2;clear hb hK;dsimp only at en;have small:=I.1.1;have' hlen:_:=I.3;obtain⟨vd,t,eQ,eE,v2,v3,v4,v5⟩:=VK.2;have v1:=VK.1;w_fin;refine yA ?_;w_fin
 let Inv1:(Addr × Nat × Tok × Tok × Tok)->Nat->St->List Value->Prop:=λj q S' l=>min j.2.1 12=nds.length/\∃k4,A5 (S'=⟨k4,S.b,S.u,S.l,S.h,S.v,S.p,S.m⟩) (S.k.le k4) (k4 j.1=some (.is (yb (min j.2.1 12) j.2.2.1 j.2.2.2.1 j.2.2.2.2))) (l.length=q) (∀(z:Nat) v,l[z]? = some v->∃c us,v = .ref c/\k4 c=some (.tup us)/\IntsAre us ((val (root par z)).getD []))
 refine zG .k (λj:Addr × Nat × Tok × Tok × Tok=>(ja B j.1 (min j.2.1 12) j.2.2.1 j.2.2.2.1 j.2.2.2.2 (q6 rfl)).src) [("keeper",.ref K.kp)]
  Inv1 en (by kernel_rfl) ⟨by decide,rfl,trivial⟩ R.3 (λj=>by refine(?_:min j.2.1 12<=_);exact q6 rfl) (zY (λj:Addr × Nat × Tok × Tok × Tok=>ja B j.1 (min j.2.1 12) j.2.2.1 j.2.2.2.1 j.2.2.2.2 (q6 rfl)) ?_) (λj env2 bq=>zr _ bq (by rfl) (.inr (by rfl))) ?_ ?_ ?_ ?_
 ·w_fin;o_unpack qP;o_unpack yo;refine ao (zI (kZ aH) (by rewrite [List.length_map];refine ae hN.1 ?_;exact JS rfl small) λt1=>?_);rewrite [List.length_map];refine ae hN.1 ?_;w_fin;refine ao (ql (n:=nds.length) λa k' u v cu hk rR=>?_);dsimp only[St.put,St.to,St.get]at cu hk |-;have em:min nds.length 12=nds.length:=Iz small;refine⟨(a,nds.length,u,t1,v),by rfl,?_,rfl,em,k',rfl,cu,?_,rfl,λz v e=>by injection e⟩
  ·refine(?_:St.has _ a (.is (yb (min nds.length 12) _ _ _)));exact ae em (gk hk)
  ·refine(?_:k' a=some (.is (yb (min nds.length 12) _ _ _)));exact ae em hk
 ·rintro j q S' l ⟨_,k4,rfl,aG,bz,_⟩;exact gk bz
 ·intro j q S' vs' bg bZ;refine zJ bZ λbo v ZZ bG=>?_;obtain rfl:=bo;obtain rfl:=bG;exact Vs.Sub.set rfl
 ·rintro j env2 bq q S' l vs' bg aQ ⟨hj,k4,rfl,aG,bz,kB,F4⟩ fS;refine zJ fS λcj v D8 dy=>?_;obtain rfl:=cj;obtain⟨tq,rfl⟩:=D8;obtain rfl:=dy;have aC:q<nds.length:=by have' this:q<min j.2.1 12:=aQ;exact UM hj this
  have' w1:_:=aG _ _ v1;dsimp only[jA];refine ae (show zi ([("keeper",.ref K.kp)]:Vs) "n" (.int q tq)=([("keeper",.ref K.kp),("n",.int q tq)]:Vs) from rfl) ?_;refine z7 rfl ?_;w_fin;o_unpack YN;refine ao (zbl (R.less (jZ rfl)) (UR.mono aG) I.2 (VK.mono aG) (aM aC hlen) λv eX=>?_);have hrt:=I.bj aC;have aO:=hv (root par q) hrt (zq I.2.3 q);rcases eX with ⟨e1,_⟩ | ⟨l1,a1,tQ,e1,rfl,e2,e3⟩
  ·exact absurd e1 aO
  ·refine⟨Vs.Sub.refl _,hj,k4,rfl,aG,bz,ae Ki (ae Kj (ae kB rfl)),λz v ez=>?_⟩;rcases Vz z l.length with pM | pM
   ·rw[List.getElem?_append_left pM]at ez;exact F4 z v ez
   ·rw[List.getElem?_append_right pM]at ez;have NX:z - l.length=0:=by
     have' this:_:=(Kb.mp ez).1;simpa using this
    rw[NX]at ez;obtain rfl:=Option.some.inj ez;have' this:z=q:=UN NX pM kB;subst this;refine⟨a1,tQ,rfl,e2,?_⟩;exact ae e1 e3
 ·rintro j S' l D ⟨hj,k4,rfl,aG,bz,kB,F4⟩ di;have' cm:k4 D=none:=di .k;have Ce:l.length=nds.length:=by
   have' this:(ja B j.1 (min j.2.1 12) j.2.2.1 j.2.2.2.1 j.2.2.2.2 (UO hj small rfl)).src.n=min j.2.1 12:=rfl;exact ae kB (ae this (ae hj rfl))
  o_reads;have aP:k4.le (upd k4 D (.list l)):=Mp.av cm;have' hD:_:=za k4 D (.list l);generalize upd k4 D (.list l)=k5 at aP hD |-;have dW:=Mp.le_trans aG aP;w_fin;refine ao (Yl (nss:=fl) (mss:=fl) (by have' this:_:=R.2;refine(?_:_<9900);exact UP this) (gk hD) (gk (dW _ _ rW)) (ae Ce (ae Ax rfl)) hF.1 (λz v ez=>?_) (λz v ez=>?_) ?_)
  ·have pM:z<nds.length:=by refine aR Ce ?_;exact(Kb.mp ez).1
   refine jg (F4 z v ez) λc tQ e1 e2 e3=>?_;refine⟨c,tQ,e1,gk (aP _ _ e2),?_⟩;have' aO:_:=hv (root par z) (I.bj pM) (zq I.2.3 z);rcases v5.1 (root par z) with ⟨q1,_⟩ | ⟨l1,a1,us1',q1,_,_,_,q5⟩
   ·exact absurd q1 aO
   ·have' this:(val (root par z)).getD []=fl.getD z []:=by
     refine wm (ae q1 q5) (AW z pM) λx=>(heq z pM x).symm
    exact aR this e3
  ·refine jg (hF.2 z v ez) λc tQ e1 e2 e3=>?_;exact⟨c,tQ,e1,gk (dW _ _ e2),e3⟩
  refine ae (decide_eq_false (not_not_intro rfl)) ?_;refine zc ?_;refine jf rfl ?_;refine yA ?_;have' w1:_:=dW _ _ v1;w_fin;o_unpack ZN;refine ao (Gv (R.less (jZ rfl)) (UR.mono dW) I.2 (VK.mono dW) λc6 k6 aZ kL=>?_);dsimp only[St.put,St.to,St.get]at aZ |-;w_fin;refine jM ?_;w_fin;refine ya (Kt _) λc7 k7 bO iO ZZ=>?_;dsimp only[St.put,St.to,St.get]at bO iO |-;refine ao (gU (by have' this:_:=R.2;refine(?_:_<9900);exact Xx this rfl) (gk (bO _ _ kL)) (gk iO) ?_);refine zc ?_;refine jf rfl ?_;refine qg ?_;refine jf rfl ?_;w_fin;refine Sb.w (by assumption) ?_;exact h k7 (Mp.le_trans dW (Mp.le_trans aZ bO))
end
section
set_option genSizeOf false
set_option genInjectivity false
variable {B:Bs} {A:Around} {S:St}
variable {L:HL} {nds:List Nd} {ps:List (Nat × Nat)} {par:List Nat} {aj:List (List Nat)} {kn:List (Nd × Nat)} {us:Nat->List Nat} {wt:List Nat} {ne:Nat} {lo no:Addr}
noncomputable def Ci(B:Bs)(L:HL)(K:KL)(lo no pa mk cc fo:Addr)(i:Nat)(S:St):Prop:=A3
 (CW λnds ps ne val fl pv fv es kvs ie tj f=>VL (Lw B L lo no S nds ps ne) (ne<=10+5*i) (0<nds.length) (nds.length<=6+i) (ps.length<=2*i) (S.m pa=some (.list pv)) (jv S.k pv ps) (S.m mk=some (.dict es)) (DK (strKind B.prog B.w) es kvs) (kvs.length<=5) (KR B K L.h S.k S.p nds.length val) (∀c x,x∈(val c).getD []->x∈i9) (S.k fo=some (.list fv)) (yX S.k fv fl) (JI ie tj f val fl) (∀(i:Nat) nd,ie[i]? = some nd->nds[i]? = some nd) (∀p∈tj,p∈ps))
 (Zf (B.z [(cc,.ref mk)]) K S.k)
 (∃bM,S.m 522=some (.is (tabObj bM)))
theorem JI.F5(J:JI nds ps f val fl)(hU:∀c x,x∈(val c).getD []->x∈i9):∀l∈fl,∀z∈l,z∈i9:=λl hl z hz=>by
 refine aB (K9.mp hl) λi hi=>?_;have' aC:i<nds.length:=aR J.1 ((Kb.mp hi).1);refine hU (f i) z ((J.3 i aC z).mp ?_);refine ae Kh ?_;refine ae hi ?_;exact hz
theorem zkB{fd:FuncData}{oc:Value}{od:Option Addr}{cR:Array (Option Value)}{s0 s1 s2 s3 s4 s5 s6 s7 d0 d1 d2 d3 d4 d5 d6 d7:Stmt}{r0:List Stmt}{tg it:Expr}{pos:Pos}{sa pa fo mk an cc:Addr}{i:Nat}{ti:Tok}{K:KL}(hK:B.K.lookup 525=some ⟨oc,od,.func fd,cR⟩)(hb:fd.body = .stmts (s0::s1::s2::s3::s4::s5::s6::s7 :: .For tg it (d0::d1::d2::d3::d4::d5::d6::d7::[]) [] pos::r0))(R:zC 8 A)(en:En env fd.scope)(ky:env.cells.lookup ("marks":Str)=some cc)(hz:B.fz=[])(hi:i<3)(nQ:K.mt=mk)(cZ:lo≠mk)(fC:no≠pa)(H:Ci B L K lo no pa mk cc fo i S)(h:∀nF S',S.k.le S'.k->Ci B L K lo no pa mk cc nF (i+1) S'->Q .next [("script",.ref sa),("lot",.ref lo),("heap",.ref L.h),("nodes",.ref no),("pairs",.ref pa),("former",.ref nF),("marks",.ref mk),("analysis",.ref an),("keeper",.ref K.kp),("lap",.int (i:Nat) ti)] S'):
  W B A true env [("script",.ref sa),("lot",.ref lo),("heap",.ref L.h),("nodes",.ref no),("pairs",.ref pa),("former",.ref fo),("marks",.ref mk),("analysis",.ref an),("keeper",.ref K.kp),("lap",.int (i:Nat) ti)] S (execs (d0::d1::d2::d3::d4::d5::d6::d7::[]) env) Q:=by
 obtain⟨⟨nds,ps,ne,val,fl,pv,fv,es,kvs,ie,tj,f,nS,aO,n0,n1,lF,hZ,hP,oS,D,F6,VK,hU,AK,hF,J,hn,hp⟩,hl,⟨F7,ke⟩⟩:=H;have uf:lo≠522:=λe=>by
  refine yn nS.ex λpar aj kn us as ZZ ZZ Lo ZZ ZZ=>?_;obtain⟨es,kvs,ra,i,t,q1,_⟩:=Lo.ex;rw[e,ke]at q1;injection q1 with zz1;injection zz1
 have kW:pa≠lo:=λe=>by
  refine yn nS.ex λpar aj kn us as ZZ ZZ Lo ZZ ZZ=>?_;obtain⟨es,kvs,ra,i,t,q1,_⟩:=Lo.ex;rw[<-e,hZ]at q1;injection q1 with zz1;injection zz1
 have' tZ:no≠522:=λe=>by
  refine yn nS.ex λpar aj kn us as ZZ ZZ Lo aH ZZ=>?_;rw[e,ke]at aH;injection aH with zz1;injection zz1
 have' Cj:pa≠522:=λe=>by rw[e,ke]at hZ;injection hZ with zz1;injection zz1
 have' NY:mk≠522:=λe=>by rw[e,ke]at oS;injection oS with zz1;injection zz1
 have oU:pa≠mk:=λe=>by rw[e,oS]at hZ;injection hZ with zz1;injection zz1
 have' iY:no≠mk:=λe=>by
  refine yn nS.ex λpar aj kn us as ZZ ZZ Lo aH ZZ=>?_;rw[e,oS]at aH;injection aH with zz1;injection zz1
 refine zcU hK hb R en nS hi oS D F6 cZ λk1 m1 cq vT tb aU Lw1 F8 T hT da=>?_;refine zcV hK hb R en Lw1 (UQ aO hi) n0 fC ((da pa kW oU).trans hZ) (hP.mono aU) (UT lF hi) λk2 b2 u2 l2 h2 v2 m2 qs NZ bt Lw2 N0 tn N1 fF=>?_;dsimp only at bt fF |-;refine zeO hK hb R en Lw2 (UW aO hi) n0 (UX n1 hi) λk3 b3 u3 l3 h3 v3 m3 qL aV e3 F9 sZ=>?_;dsimp only at aV sZ |-;have' iR:_:=Mp.le_trans aU bt;have cQ:=Mp.le_trans iR aV;have tp:m3 mk=some (.dict cq):=(sZ mk (Ne.symm cZ) (Ne.symm iY)).trans ((fF mk (Ne.symm cZ) (Ne.symm oU)).trans F8);have oT:m3 pa=some (.list NZ):=(sZ pa kW (Ne.symm fC)).trans tn;have' AX:m3 522=some (.is (tabObj F7)):=(sZ 522 (Ne.symm uf) (Ne.symm tZ)).trans ((fF 522 (Ne.symm uf) (Ne.symm Cj)).trans ((da 522 (Ne.symm uf) (Ne.symm NY)).trans ke));have hn3:∀(i:Nat) nd,nds[i]? = some nd->qL[i]? = some nd:=λi nd e=>by
  rcases e3 with rfl | ⟨z,rfl⟩
  ·exact e
  ·refine ae (Mj (Kb.mp e).1) ?_;exact e
 have lG:nds.length<=qL.length/\qL.length<=nds.length+1:=by
  rcases e3 with rfl | ⟨z,rfl⟩
  ·exact UY
  ·exact ae Ki (ae Kj UZ)
 refine yn F9.ex λpar aj kn us as Ck I3 N2 kO Cm=>?_;dsimp only at Ck N2 kO Cm;have N3:=I3.3;have AY:∀(i:Nat) nd,ie[i]? = some nd->qL[i]? = some nd:=λi nd e=>hn3 i nd (hn i nd e);have' Hc:∀p∈tj,p∈ps++qs:=λp q=>Vj _ (hp p q);have' VK3:KR B K L.h k3 S.p par.length val:=(VK.mono cQ).more (U4 lG N3);refine zby hK hb R en ky hz Ck I3 VK3 (hl.mono cQ) nQ tp ((T.mono bt).mono aV) hU hT (J.hF AY Hc I3.closed) λk4 p4 AZ aG N4 g1 g2 g3=>?_;dsimp only at aG |-;have A0:=Mp.le_trans bt (Mp.le_trans aV aG);have iZ:=Mp.le_trans aU A0;have' lf0:fl.length<=qL.length:=by
  refine ae J.1 ?_;rcases Vz qL.length ie.length with q | q
  ·have' this:_:=AY qL.length _ (Ka q);exact absurd (Kb.mp this).1 (L0 _)
  ·exact q
 refine zeP (val:=val) hK hb R en I3 kO (Cm.mono aG) oT (N1.mono (Mp.le_trans aV aG)) (ae Ki (U5 lF N0 hi)) (iZ _ _ AK) (hF.mono iZ) lf0 tp (T.mono A0) (λx=>(hT x).1) (J.F5 hU) λHd k5 out N5 g aP A1 N6 N7 hRg hCg N8=>?_;dsimp only[St.put,St.to,St.get]at aP |-;have J5:JI qL (ps++qs) (root par) AZ N5:=JI.step I3.1 I3.rep I3.closed hRg hCg (λc hc hr=>g1 c hc (by have' this:_:=zq I3.2.3 c;rw[hr]at this;exact this)) (λc hc=>⟨(g3 c hc).1,bp (g3 c hc).2⟩) N7 λi hi=>(N8 i hi).2;refine zcW hK hb R en (Ck.mono (Mp.le_trans aG aP)) I3 (N4.mono aP) kO ((Cm.mono aG).mono aP) A1 N6 N7 (λi hi=>(N8 i hi).1) (λc hc hr=>(g1 c hc hr).1) J5.3 λk6 aZ=>?_;dsimp only[St.put,St.to,St.get]at aZ |-;refine ZT ?_;have nG:=Mp.le_trans aG (Mp.le_trans aP aZ);have cP:=Mp.le_trans cQ nG;refine h Hd _ cP ⟨⟨qL,ps++qs,ne+3,AZ,N5,NZ,out,cq,vT,qL,ps++qs,root par,⟨par,aj,kn,us,as,(Ck.mono nG).more (U6 rfl) (U7 aO hi),I3,N2.mono nG,kO,Cm.mono nG⟩,by exact U8 aO rfl,by exact VA lG n0,by exact VB lG n1,ae Ki (VC lF N0),oT,N1.mono (Mp.le_trans aV nG),tp,T.1,T.2,?_,g2,aZ _ _ A1,N6.mono aZ,J5,λi nd e=>e,λp q=>q⟩,hl.mono cP,⟨_,AX⟩⟩;exact aR N3 (N4.mono (Mp.le_trans aP aZ))
end
section
set_option genSizeOf false
set_option genInjectivity false
variable {B:Bs} {A:Around} {S:St}
variable {L:HL} {nds:List Nd} {ps:List (Nat × Nat)} {par:List Nat} {aj:List (List Nat)} {kn:List (Nd × Nat)} {us:Nat->List Nat} {wt:List Nat} {ne:Nat} {lo no:Addr}
theorem zeQ{fd:FuncData}{oc:Value}{od:Option Addr}{cR:Array (Option Value)}{s0 s1 s2 s3 s4 s5 s6 s7 d0 d1 d2 d3 d4 d5 d6 d7 s9:Stmt}{tg it:Expr}{pos:Pos}{sa pa fo mk an cc:Addr}{K:KL}(hK:B.K.lookup 525=some ⟨oc,od,.func fd,cR⟩)(hb:fd.body = .stmts (s0::s1::s2::s3::s4::s5::s6::s7 :: .For tg it (d0::d1::d2::d3::d4::d5::d6::d7::[]) [] pos::s9::[]))(R:zC 8 A)(en:En env fd.scope)(ky:env.cells.lookup ("marks":Str)=some cc)(hz:B.fz=[])(nQ:K.mt=mk)(cZ:lo≠mk)(fC:no≠pa)(H:Ci B L K lo no pa mk cc fo 0 S)(h:∀vs' S',(∃bM,S'.m 522=some (.is (tabObj bM)))->Q (.ret (.bool true)) vs' S'):
  W B A true env [("script",.ref sa),("lot",.ref lo),("heap",.ref L.h),("nodes",.ref no),("pairs",.ref pa),("former",.ref fo),("marks",.ref mk),("analysis",.ref an),("keeper",.ref K.kp)] S (execs (.For tg it (d0::d1::d2::d3::d4::d5::d6::d7::[]) [] pos::s9::[]) env) Q:=by
 have' e:_=fd:=j3 hK (by delta Bs.K;k_is);subst e;have en0:=en;have' e:_:=jE rfl hb;have e2:=at_ 9 e rfl rfl;have e:=at_ 8 e rfl rfl;injection e with q1 q2 q3 q4 q5;clear q3 q4 q5;subst q1 q2 e2;dsimp only at en;refine yq ?_;intro _ _ _ _
 let Inv1:(Addr × Tok × Tok × Tok)->Nat->Vs->St->Prop:=λj i vs' S'=>∃nF,A3 (S'.k j.1=some (.is (yb 3 j.2.1 j.2.2.1 j.2.2.2))) (Ci B L K lo no pa mk cc nF i S') (Vs.Sub [("script",.ref sa),("lot",.ref lo),("heap",.ref L.h),("nodes",.ref no),("pairs",.ref pa),("former",.ref nF),("marks",.ref mk),("analysis",.ref an),("keeper",.ref K.kp)] vs')
 refine qi (λj:Addr × Tok × Tok × Tok=>(ja B j.1 3 j.2.1 j.2.2.1 j.2.2.2 (jZ rfl)).src) Inv1 R.3 (zY (λj:Addr × Tok × Tok × Tok=>ja B j.1 3 j.2.1 j.2.2.1 j.2.2.2 (jZ rfl)) ?_) (λj=>zr _ en (by rfl) (.inl rfl)) ?_ ?_ ?_
 ·w_fin;o_unpack qP;refine ao (ql (n:=3) λa k' u v cu hk rR=>?_);dsimp only[St.put,St.to,St.get]at cu hk |-;obtain⟨⟨nds,ps,ne,val,fl,pv,fv,es,kvs,ie,tj,f,nS,aO,n0,n1,lF,hZ,hP,oS,D,F6,VK,hU,AK,hF,J,hn,hp⟩,hl,ht⟩:=H;exact⟨(a,u,_,v),by rfl,gk hk,fo,hk,⟨⟨nds,ps,ne,val,fl,pv,fv,es,kvs,ie,tj,f,nS.to cu rfl rfl rfl rfl rfl rfl rfl,aO,n0,n1,lF,hZ,hP.mono cu,oS,D,F6,VK.mono cu,hU,cu _ _ AK,hF.mono cu,J,hn,hp⟩,hl.mono cu,ht⟩,Vs.Sub.refl _⟩
 ·rintro j i vs' S' ⟨nF,hk,_⟩;exact gk hk
 ·intro j i vs' S' cW bg aQ bZ;refine gL bZ λnF hk HL sub=>?_;intro rA;refine zJ rA λbG v zn4 cj=>?_;obtain rfl:=bG;obtain⟨t,rfl⟩:=zn4;obtain rfl:=cj;refine jT (sub.snoc (x:="lap") (by rfl) (.int i t)) ?_;have' hi:i<3:=aQ;dsimp only[List.cons_append,List.nil_append];exact zkB hK hb R en0 ky hz hi nQ cZ fC HL λHd S5 aP HL5=>⟨Hd,aP _ _ hk,HL5,Vs.Sub.app _ [("lap",.int i t)]⟩
 ·intro j vs' S' eV;refine gL eV λnF hk HL sub=>?_;w_means;refine jT sub ?_;obtain⟨⟨nds,ps,ne,val,fl,pv,fv,es,kvs,ie,tj,f,nS,_⟩,hl,ht⟩:=HL;refine yn nS.ex λpar aj kn us as kX I4 ua bC ub=>?_;have' u1:_:=kX.3;refine aB kX.4 λth u2=>?_;w_fin;o_unpack G8;refine ao (zbh (R.less (jZ rfl)) kX I4.1 λt=>?_);w_fin;o_unpack yo;refine ao (ZS nS.lm λt2=>?_);w_fin;refine ao (xb ?_);refine ae (show(((nds.length:Nat):Int) == ((nds.length:Nat):Int))=true by simp) ?_;w_means;exact h _ _ ht
end
section
set_option genSizeOf false
set_option genInjectivity false
variable {B:Bs} {A:Around} {S:St}
theorem zeR(hK:B.K.lookup 525=some ⟨oc,od,.func fd,cR⟩)(hb:fd.body = .stmts (s0::s1::s2::s3::s4::s5::s6::s7 :: .For tg it (d0::d1::d2::d3::d4::d5::d6::d7::[]) [] pos::s9::[]))(R:zC 8 A)(en:En env fd.scope)(ky:env.cells.lookup ("marks":Str)=some cc)(hz:B.fz=[])(eo:env.code = .ref 524)(C:CodeHd B.h0 524 522)(FU:B.h0.BuiltinsAt B.mg 522)(tY:B.h0.IsList sa xs.toArray)(hI:IntsAre xs ns)(hx:xs.length<=1000)(hT:S.m 522=some (.is (tabObj #[])))(h:∀vs' S',(∃bM,S'.m 522=some (.is (tabObj bM)))->Q (.ret (.bool true)) vs' S'):
  W B A true env [("script",.ref sa)] S (execs (s0::s1::s2::s3::s4::s5::s6::s7 :: .For tg it (d0::d1::d2::d3::d4::d5::d6::d7::[]) [] pos::s9::[]) env) Q:=by
 refine yf (zku hK hb R en tY hI hx λlo k1 m1 aU N9 L1 da=>?_);dsimp only;have uf:lo≠522:=λe=>by rw[e,hT]at N9;injection N9
 have He:m1 522=some (.is (tabObj #[])):=(da 522 (Ne.symm uf)).trans hT;refine yf (zeK hK hb R en λL k2 b2 u2 h2 m2 no pa fo as bt H2 cC FT tn Hg A2 Ba fC fF=>?_);dsimp only at bt fF A2 Ba |-;have tZ:no≠522:=λe=>by rw[e,He]at A2;injection A2
 have Cj:pa≠522:=λe=>by rw[e,He]at Ba;injection Ba
 have Bb:∃es,m1 lo=some (.dict es):=by
  obtain⟨es,kvs,ra,i,t,q1,_⟩:=L1.ex;exact⟨es,q1⟩
 have' Hh:no≠lo:=λe=>by refine aB Bb λes q=>?_;rw[e,q]at A2;injection A2
 have Bc:pa≠lo:=λe=>by refine aB Bb λes q=>?_;rw[e,q]at Ba;injection Ba
 have' L2:qb B k2 m2 lo:=(L1.mono bt).at (fF lo (Ne.symm Hh) (Ne.symm Bc));have' KP:m2 522=some (.is (tabObj #[])):=(fF 522 (Ne.symm tZ) (Ne.symm Cj)).trans He;refine yf (zeL (pa:=pa) (fo:=fo) hK hb R en H2 L2 cC FT λvs3 k3 b3 u3 l3 h3 v3 aV F9 Hi=>?_);dsimp only at aV |-;refine jT Hi ?_;refine yf (zeN (pa:=pa) (fo:=fo) hK hb R en F9 λvs4 k4 b4 u4 l4 h4 v4 m4 nds aG Oa n0 n6 pL Hj=>?_);dsimp only at aG pL |-;refine jT Hj ?_;have' hT4:m4 522=some (.is (tabObj #[])):=(pL 522 (Ne.symm uf) (Ne.symm tZ)).trans KP;have tr:m4 pa=some (.list []):=(pL pa Bc (Ne.symm fC)).trans tn;refine zkw hK hb R en eo ky hT4 C FU Oa λK k5 p5 m5 mk an aP nQ Lw5 Hk NY Hl hT5 Cb VK5 Ce=>?_;dsimp only at aP Hk Cb |-;have' cZ:lo≠mk:=λe=>by
  refine yn Oa.ex λpar aj kn us as ZZ ZZ Lo ZZ ZZ=>?_;obtain⟨es,kvs,ra,i,t,q1,_⟩:=Lo.ex;rw[e]at q1;dsimp only at q1;rw[Hk]at q1;injection q1
 have' oU:pa≠mk:=λe=>by rw[e,Hk]at tr;injection tr
 have' fg:_:=Mp.le_trans aV (Mp.le_trans aG aP);refine zeQ hK hb R en ky hz nQ cZ fC ⟨⟨nds,[],6,λZZ=>none,[],[],[],[],[],[],[],λi=>i,Lw5,by exact VE rfl,n0,by exact VF n6,Kz _,(Cb pa oU Cj).trans tr,jv.nil _,Hl,DK.nil _,Kt _,VK5,λc x hx=>(by cases hx),fg _ _ Hg,⟨rfl,λi v e=>(by injection e)⟩,JI.nil,λi nd e=>(by injection e),λp q=>q⟩,Ce,hT5⟩ h
end
section
set_option genSizeOf false
set_option genInjectivity false
theorem zkC{prog:Program}{w:World}{G h₁:Heap}{mg mb:Str->Option Value}{p:Program}{loose:List Str}{mean:ExcName->Option Value}{gens:Array GenState}{drawn:Drawn}{tk:Nat}{os:OsState}{L sa:Addr}{xs:List Value}{ns:List Int}{m:Str->Option Value}{o1 o2 o3 o4:Obj}{v1 v2 v3 v4:Option Value}{E:Value->Shared->Prop}{fd:FuncData}{oc:Value}{od:Option Addr}{cR:Array (Option Value)}{s0 s1 s2 s3 s4 s5 s6 s7 d0 d1 d2 d3 d4 d5 d6 d7 s9:Stmt}{tg it:Expr}{pos:Pos}{body:List Stmt}(hK:(hd.heap_1_39 w.params).lookup 525=some ⟨oc,od,.func fd,cR⟩)(hb:fd.body = .stmts (s0::s1::s2::s3::s4::s5::s6::s7 :: .For tg it (d0::d1::d2::d3::d4::d5::d6::d7::[]) [] pos::s9::[]))(dK:fd.body = .stmts body)(R:zC 8 A)(en:En env fd.scope)(eo:env.code = .ref 524)(iy:env.locals=L)(fD:env.cells=([(("marks":Str),L+1+1+1+1),(("keeper":Str),L+1+1+1),(("lap":Str),L+1+1),(("lot":Str),L+1)]:List (Str × Addr)))(iz:fd.scope.names.lookup ("script":Str)=some .local)(X:(hd.heap_1_39 w.params).In G)(T:Top p loose mean mg mb G)(F:Fr G L h₁ m)(hm:m "script"=some (.ref sa))(N:News G L h₁ [(L+1+1+1+1,o1),(L+1+1+1,o2),(L+1+1,o3),(L+1,o4),(522,tabObj #[])])(e1:o1.data = .cell v1)(e2:o2.data = .cell v2)(e3:o3.data = .cell v3)(e4:o4.data = .cell v4)(C:CodeHd G 524 522)(tY:G.IsList sa xs.toArray)(hI:IntsAre xs ns)(hz:¬(63:Int)<(ns.length:Int))(hg:gens = #[]):
  wpAny (model prog w) A (execs body env) (λf s'=>f = .ret (.bool true)/\(∀b o,G.get? b=some o->s'.heap.get? b=some o)/\s'.os=os/\s'.gens = #[]/\∃ps,s'.heap.get? 522=some (tabObj ps)) E ⟨h₁,gens,drawn,tk,os⟩:=by
 obtain rfl:=jE hb dK;subst hg;have hT:=N (522,tabObj #[]) (.tail _ (.tail _ (.tail _ (.tail _ (.head _)))));have h1:=N (L+1+1+1+1,o1) List.mem_cons_self;have h2:=N (L+1+1+1,o2) (.tail _ (.head _));have h3:=N (L+1+1,o3) (.tail _ (.tail _ (.head _)));have h4:=N (L+1,o4) (.tail _ (.tail _ (.tail _ (.head _))));dsimp only at hT h1 h2 h3 h4
 let B:Bs:=⟨prog,w,G,mg,mb,os,X,T.g,T.b,T.nolimit,[],T.builtins⟩
 let S:St:=⟨λZZ=>none,λZZ=>none,λZZ=>none,λZZ=>none,λZZ=>none,λZZ=>none,λZZ=>none,upd (λZZ=>none) 522 (.is (tabObj #[]))⟩
 have has:∀a c,S.has a c->a=522/\c = .is (tabObj #[]):=λa c q=>by
  refine aB q λr q=>?_;cases r <;> first | (injection q;done) | skip
  have q':upd (λZZ=>none) 522 (.is (tabObj #[])) a=some c:=q;unfold upd at q';split at q'
  ·rename_i e;obtain rfl:=Option.some.inj q';exact⟨e,rfl⟩
  ·injection q'
 have no:∀a,a≠522->S.no a:=λa ha=>St.cK λc q=>ha (has a c q).1;have' okB:Ok B S (λa=>G.get? a) ⟨h₁,#[],drawn,tk,os⟩:=by
  refine⟨⟨λa o q=>q,λc v q=>(nomatch q)⟩,λa o q=>F.keep a o q,λa c q=>?_,λa c q=>?_,λa r r' c c' q q'=>?_,λa c q=>?_,rfl,rfl⟩
  ·obtain⟨rfl,rfl⟩:=has a c q;exact⟨_,hT.1,rfl,rfl⟩
  ·obtain⟨rfl,rfl⟩:=has a c q;exact hT.2.2
  ·cases r <;> first | (injection q;done) | skip
   cases r' <;> first | (injection q';done) | rfl
  ·obtain⟨rfl,rfl⟩:=has a c q;decide
 have' Bd:∀(c:Addr) (o:Obj) (v:Option Value),h₁.get? c=some o->o.data = .cell v->c≠522:=λc o v q d e=>by
  rw[e,hT.1]at q;obtain rfl:=Option.some.inj q;injection d
 have Ob:∀x c,(x,c)∈env.cells->∃o v,h₁.get? c=some o/\o.data = .cell v/\G.get? c=none/\c≠L/\x≠("script":Str):=λx c q=>by
  rw[fD]at q;simp only[List.mem_cons,List.not_mem_nil,or_false,Prod.mk.injEq]at q;rcases q with ⟨rfl,rfl⟩ | ⟨rfl,rfl⟩ | ⟨rfl,rfl⟩ | ⟨rfl,rfl⟩
  ·exact⟨o1,v1,h1.1,e1,h1.2.2,h1.2.1,by decide⟩
  ·exact⟨o2,v2,h2.1,e2,h2.2.2,h2.2.1,by decide⟩
  ·exact⟨o3,v3,h3.1,e3,h3.2.2,h3.2.1,by decide⟩
  ·exact⟨o4,v4,h4.1,e4,h4.2.2,h4.2.1,by decide⟩
 have gv:∀x v,zo ([("script",.ref sa)]:Vs) x=some v->x=("script":Str)/\v = .ref sa:=λx v q=>by
  unfold zo at q;rw[List.lookup_cons]at q;by_cases e:x=("script":Str)
  ·subst e;simp at q;exact⟨rfl,q.symm⟩
  ·have:(x == ("script":Str))=false:=by simpa using e
   rw[this]at q;injection q
 have' fr:zA true env [("script",.ref sa)] S (λa=>G.get? a) ⟨h₁,#[],drawn,tk,os⟩:=by
  refine⟨⟨m,ae iy F.ns,λx v hk hv=>?_⟩,λx c hx=>?_,?_,?_,λx c hx=>?_,λZZ=>?_,λZZ x c hx=>?_⟩
  ·obtain⟨rfl,rfl⟩:=gv x v hv;exact hm
  ·obtain⟨o,v,q1,q2,_,_,q5⟩:=Ob x c (mem_of_lookup hx);exact⟨v,⟨o,q1,q2⟩,λu hu=>absurd (gv x u hu).1 q5⟩
  ·exact ae iy (Heap.get?_none_of_le F.above)
  ·exact ae iy (no L (Ne.symm hT.2.1))
  ·obtain⟨o,v,q1,q2,q3,q4,_⟩:=Ob x c hx;refine ae (if_pos rfl) ?_;refine ae iy ?_;exact⟨q3,no c (Bd c o v q1 q2),q4⟩
  ·refine ae fD ?_;simp;exact VG
  ·rw[fD]at hx |-;simp only[List.mem_cons,List.not_mem_nil,or_false,Prod.mk.injEq]at hx;rcases hx with ⟨rfl,rfl⟩ | ⟨rfl,rfl⟩ | ⟨rfl,rfl⟩ | ⟨rfl,rfl⟩ <;> rfl
 have' lxs:xs.length<=1000:=by have' this:_:=hI.length;exact VH this hz
 refine Zm T.bmain λbm ob b1 b2 b3 b4 b5 b6=>?_;have' Be:G.BuiltinsAt mg 522:=by
  refine⟨bm,ob,b1,b2,λq=>?_,λq=>?_,b3,b4,b5,b6⟩
  ·refine JM T.g λo es ep e hd ZZ=>?_;rw[q,e]at b3;obtain rfl:=Option.some.inj b3;rw[hd]at b6;injection b6
  ·rw[q,hT.2.2]at b3;injection b3
 have' Bf:S.m 522=some (.is (tabObj #[])):=by
  refine(?_:upd (λZZ=>none) 522 (.is (tabObj #[])) 522=_);exact za _ _ _
 have' H:_:=zeR (B:=B) (S:=S) (Q:=λfl ZZ S'=>fl = .ret (.bool true)/\∃bM,S'.m 522=some (.is (tabObj bM))) hK hb R en (cc:=L+1+1+1+1) (ae fD rfl) rfl eo C Be tY hI lxs Bf (λvs' S' q=>⟨rfl,q⟩) (λa=>G.get? a) ⟨h₁,#[],drawn,tk,os⟩ okB fr;refine wpAny_mono H (λf s' q=>?_) λZZ ZZ e=>e.elim;obtain⟨vs',S',o',f',rfl,bM,q⟩:=q;refine qv (o'.3 522 _ (St.az (r:=.m) q)) λob hob bR ZZ=>?_;obtain rfl:=bR;exact⟨rfl,λb o e=>o'.2 b o e,o'.7,o'.8,bM,hob⟩
theorem zlS(h1:env.scope=sc)(h2:sc.kind = .function)(h3:env.globals=mainGlobals)(h4:env.builtins=builtinsNs)(h5:env.cells=cellsFrom n sc.names [])(h6:(sc.names.map (·.1)).Nodup):En env sc:=by
 refine⟨h1,h2,h3,h4,λx hx=>?_,λx c hc e=>?_⟩
 ·exact ae h5 (qT _ _ [] x (.inr hx))
 ·rw[h5]at hc;rcases gO sc.names _ [] x c (mem_of_lookup hc) with q | q
  ·cases q
  ·rw[j1 h6 q]at e;injection e with zz1;injection zz1
end
end Kp.Internal
namespace Kp.Internal
open PySem PySem.W PyProof.Rows
theorem hb.tw18295077224720544092:True:=⟨⟩
theorem hb.tw5330193021624687135:True:=⟨⟩
set_option Elab.async true
theorem hb:PySem.Challenge.rw_sa0035_01.Holds:=by
 w_on
 o_law
 refine holds_open (q:=hd.view_1_40) (loose:=[]) (Xt:=λs=>xlAt hd.view_1_40 [] s&&recOk (RowW.records row.toRowW) s) (XP:=XL hd.view_1_40 []) (Yf:=Hook.obs hook) (Ya:=Hook.val hook) (YP:=Hook.says hook) (N:=7058) hd_left (Hook.of hook) (Hook.keeps hook) (λs e=>xl_of s (Bool.and_eq_true_iff.mp e).1) XL.keeps (by rfl) (by rfl) (by rfl) (λs e=>recFacts_of (Bool.and_eq_true_iff.mp e).2) (by rfl) (by decide +kernel) (by decide +kernel) ⟨rfl,rfl,rfl,rfl,rfl,by decide +kernel⟩ ?hw ?hc;case hw=>w_witness2
 show WalkO hd.view_1_40 [] (XL hd.view_1_40 []) (kmHook hd.heap_1_39 keys (λ_=>by kernel_rfl) [522]).says _ _ _ _
 k_go0
 refine wpAny_mono (zkC (E:=λ_ _=>False) (by k_is) rfl rfl ?R (zlS rfl rfl rfl rfl rfl (by decide)) rfl rfl rfl rfl (by assumption) (by assumption) (by assumption) rfl (by assumption) (by assumption) (by assumption) (by assumption) (by assumption) (by assumption) (by assumption) (by assumption) (by assumption) (by assumption)) ?P (λ_ _ e=>e.elim);case R=>exact⟨by show 1+claimMargin+1+3*8<=900;decide,by show 4+3+30*8<=3000;decide,rfl⟩
 case P =>
  rintro f s' ⟨rfl,keep,pQ,hgs,F7,ke⟩;refine⟨⟨.inl ⟨_,_,[],rfl,λcls=>rfl,.bool true,?post,λ_=>⟨List.nodup_nil,λa h=>(nomatch h)⟩⟩,keep,pQ,hgs⟩,⟨F7,ke⟩,trivial⟩;refine postW_of (by wrow_shape) (w_eq_bool (w_res rfl) w_lit) ?_;rfl
set_option Elab.async false
end Kp.Internal
theorem PySem.Challenge.cw_sa0035_01_holds : PySem.Challenge.rw_sa0035_01.Holds :=
 Kp.Internal.hb
