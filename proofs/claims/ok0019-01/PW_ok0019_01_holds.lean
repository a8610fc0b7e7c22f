import PyProof.Rows.All
import Wide.All
import OpenK.AllK
import Wide.FinOn
import KE.LcTurns
import Lean
import PySem.Challenge.RW_ok0019_01
open PySem PySem.W PySem.Spec PySem.Calls PyProof.Rows
set_option Elab.async false
set_option linter.unusedVariables false
set_option linter.unusedSimpArgs false
set_option maxRecDepth 100000
set_option maxHeartbeats 2000000
set_option rowWalk.seconds 0
set_option compiler.extract_closed false
theorem Mine.PySem.W.holds_open {r : OpenRow} {q : Program} {loose : List Str} {Xt : Shared → Bool} {XP : (Str → Option Value) → Heap → Prop} {α : Type} {Yf : Shared → α} {Ya : World → α} {YP : World → Heap → Prop} {d : DefRec} {kwd : List (Str × Expr)} {N : Nat} {K : Params → Frag} {as : List Addr} {e : ∀ P, as = (K P).map (·.1)}
    (left : LeftO r.prog q loose Xt (fun s => as.map s.heap.get?) (fun w => (K w.params).map fun p => some p.2) N) (hY : ∀ w s, (kHook K as e).obs s = (kHook K as e).val w → (kHook K as e).says w s.heap) (hYk : ∀ w h h', (kHook K as e).says w h → (∀ b o, h.get? b = some o → h'.get? b = some o) → (kHook K as e).says w h')
    (hX : ∀ s, Xt s = true → XP (s.heap.nsMap mainGlobals) s.heap) (hXk : ∀ mg h h', XP mg h → (∀ b o, h.get? b = some o → h'.get? b = some o) → XP mg h')
    (hdef : defOf q r.name = some (d, kwd)) (hp : r.prog.theDef r.name = some (d.params, d.body, d.scope)) (hk : kwWritten? d.params.kwonlyargs d.params.kw_defaults = some kwd) (hRf : ∀ s, Xt s = true → RecFacts r.records s.heap) (hwr : (!r.writes || r.records.isEmpty) = true)
    (k1 : r.wellSaid = true) (ok : (chainsOk q && opensWell r.prog && (frees r.toRowW && r.within.isEmpty)) = true) (hb : r.prog.bare) (hw : r.toRowW.promised)
    (call : WalkO q loose XP (kHook K as e).says r.toRowW d kwd fun f vs => PySem.call f vs) : r.Holds :=
  _root_.PySem.W.holds_open left hY hYk hX hXk hdef hp hk hRf hwr k1 ok hb hw call
namespace Mine
theorem hd0.tw10046214379172474726 : True := trivial
theorem hd0.tw10069731379804114837 : True := trivial
theorem hd0.tw10121685255857489051 : True := trivial
theorem hd0.tw10131604004383188290 : True := trivial
theorem hd0.tw10176971302787931466 : True := trivial
theorem hd0.tw10211360609913916499 : True := trivial
theorem hd0.tw10260036693505685281 : True := trivial
theorem hd0.tw10282353163112612276 : True := trivial
theorem hd0.tw10297934492154968163 : True := trivial
theorem hd0.tw10299701338536963064 : True := trivial
theorem hd0.tw10380885782726495096 : True := trivial
theorem hd0.tw10402865154986503972 : True := trivial
theorem hd0.tw10542246809792872130 : True := trivial
theorem hd0.tw10678590906788955960 : True := trivial
theorem hd0.tw10702419455615826468 : True := trivial
theorem hd0.tw10759000945844983178 : True := trivial
theorem hd0.tw10763176690372330244 : True := trivial
theorem hd0.tw10783142842391291914 : True := trivial
theorem hd0.tw10831172887324590962 : True := trivial
theorem hd0.tw10833352333336119249 : True := trivial
theorem hd0.tw10834066803405267298 : True := trivial
theorem hd0.tw1087435185961119440 : True := trivial
theorem hd0.tw10893015288667660014 : True := trivial
theorem hd0.tw10950015098503667 : True := trivial
theorem hd0.tw10990117588895114390 : True := trivial
theorem hd0.tw10992540420993761691 : True := trivial
theorem hd0.tw10999217049103145239 : True := trivial
theorem hd0.tw11017282251955597146 : True := trivial
theorem hd0.tw11064160589316715639 : True := trivial
theorem hd0.tw11115630303567131559 : True := trivial
theorem hd0.tw11119462899506271795 : True := trivial
theorem hd0.tw11138249019705727585 : True := trivial
theorem hd0.tw11237116216057311745 : True := trivial
theorem hd0.tw11296317026604976579 : True := trivial
theorem hd0.tw11342738394816991558 : True := trivial
theorem hd0.tw113680085351987624 : True := trivial
theorem hd0.tw1144143789490447932 : True := trivial
theorem hd0.tw11497454159474323877 : True := trivial
theorem hd0.tw11510660921149772417 : True := trivial
theorem hd0.tw11520006908099386746 : True := trivial
theorem hd0.tw11569332292355274217 : True := trivial
theorem hd0.tw11573459230172034977 : True := trivial
theorem hd0.tw11580911146225420957 : True := trivial
theorem hd0.tw11614672710775262937 : True := trivial
theorem hd0.tw11623040055089417287 : True := trivial
theorem hd0.tw11713894155979806921 : True := trivial
theorem hd0.tw11759931035086368862 : True := trivial
theorem hd0.tw11837375871785574032 : True := trivial
theorem hd0.tw11856145978303915523 : True := trivial
theorem hd0.tw1189054894648436682 : True := trivial
theorem hd0.tw1190472648562434886 : True := trivial
theorem hd0.tw1191622958437496830 : True := trivial
theorem hd0.tw12003068471920674386 : True := trivial
theorem hd0.tw12014350970595483805 : True := trivial
theorem hd0.tw12042970921518469988 : True := trivial
theorem hd0.tw12051904425446288284 : True := trivial
theorem hd0.tw12118671535382520970 : True := trivial
theorem hd0.tw12151319272224551882 : True := trivial
theorem hd0.tw12158446373679332284 : True := trivial
theorem hd0.tw12171479601555845635 : True := trivial
theorem hd0.tw12267492742709321793 : True := trivial
theorem hd0.tw12274314036958901727 : True := trivial
theorem hd0.tw12276703297741760479 : True := trivial
theorem hd0.tw12276868589851284407 : True := trivial
theorem hd0.tw12281760368372384568 : True := trivial
theorem hd0.tw12291059427910704922 : True := trivial
theorem hd0.tw1237551924186500246 : True := trivial
theorem hd0.tw12407471169438301300 : True := trivial
theorem hd0.tw12482913051474129847 : True := trivial
theorem hd0.tw12607126878928665686 : True := trivial
theorem hd0.tw12665113834384165610 : True := trivial
theorem hd0.tw1277909223561221377 : True := trivial
theorem hd0.tw12782906062734576069 : True := trivial
theorem hd0.tw12784123285358203314 : True := trivial
theorem hd0.tw1280484567907817961 : True := trivial
theorem hd0.tw12805207464963118493 : True := trivial
theorem hd0.tw12846747447118687680 : True := trivial
theorem hd0.tw12933303735471307315 : True := trivial
theorem hd0.tw12933712334415985070 : True := trivial
theorem hd0.tw12949994812025541312 : True := trivial
theorem hd0.tw1301209152814809411 : True := trivial
theorem hd0.tw13012256603424907846 : True := trivial
theorem hd0.tw13105775301183761922 : True := trivial
theorem hd0.tw13143500989680652158 : True := trivial
theorem hd0.tw13155985672576599351 : True := trivial
theorem hd0.tw13198788859858803882 : True := trivial
theorem hd0.tw13253873054810628565 : True := trivial
theorem hd0.tw13396925332426190305 : True := trivial
theorem hd0.tw13398391709312642032 : True := trivial
theorem hd0.tw13407135678810255579 : True := trivial
theorem hd0.tw13419125388846519135 : True := trivial
theorem hd0.tw1344525240475726329 : True := trivial
theorem hd0.tw13451678851320754741 : True := trivial
theorem hd0.tw1347409029562170106 : True := trivial
theorem hd0.tw13528136040738991083 : True := trivial
theorem hd0.tw13540748790817394469 : True := trivial
theorem hd0.tw13545224959385804456 : True := trivial
theorem hd0.tw13568120283695954765 : True := trivial
theorem hd0.tw1359104647744391194 : True := trivial
theorem hd0.tw13601029301931556805 : True := trivial
theorem hd0.tw13742105315037027404 : True := trivial
theorem hd0.tw1375262684347379207 : True := trivial
theorem hd0.tw13774004877433310113 : True := trivial
theorem hd0.tw13800483763300068865 : True := trivial
theorem hd0.tw13860332498241106628 : True := trivial
theorem hd0.tw13893897624538738667 : True := trivial
theorem hd0.tw1405133032699174042 : True := trivial
theorem hd0.tw14139502865228493775 : True := trivial
theorem hd0.tw14198383729236097778 : True := trivial
theorem hd0.tw14210159926740337751 : True := trivial
theorem hd0.tw14219380631129882139 : True := trivial
theorem hd0.tw14341870401148061235 : True := trivial
theorem hd0.tw14364967241312749879 : True := trivial
theorem hd0.tw14392666273103455515 : True := trivial
theorem hd0.tw14397348241044380734 : True := trivial
theorem hd0.tw14469414521783600489 : True := trivial
theorem hd0.tw14487139744964632365 : True := trivial
theorem hd0.tw14502001302391087502 : True := trivial
theorem hd0.tw1450596053491749582 : True := trivial
theorem hd0.tw14508254801004028759 : True := trivial
theorem hd0.tw14530719843544073062 : True := trivial
theorem hd0.tw14574581053450234351 : True := trivial
theorem hd0.tw14595221640817416183 : True := trivial
theorem hd0.tw14603430072732904927 : True := trivial
theorem hd0.tw14667944589569409166 : True := trivial
theorem hd0.tw14693713190999327560 : True := trivial
theorem hd0.tw14694669036159307144 : True := trivial
theorem hd0.tw14707159364453948219 : True := trivial
theorem hd0.tw14727694407236729852 : True := trivial
theorem hd0.tw14751195016474515691 : True := trivial
theorem hd0.tw14778368771875113021 : True := trivial
theorem hd0.tw14784936291350405178 : True := trivial
theorem hd0.tw14800764121473040398 : True := trivial
theorem hd0.tw1486104822300770100 : True := trivial
theorem hd0.tw14861641958691549802 : True := trivial
theorem hd0.tw14876873880408228765 : True := trivial
theorem hd0.tw14905831658627392255 : True := trivial
theorem hd0.tw14943190808241422403 : True := trivial
theorem hd0.tw1500556042865797202 : True := trivial
theorem hd0.tw1512869562912987329 : True := trivial
theorem hd0.tw15129630465062437422 : True := trivial
theorem hd0.tw15134839469752433495 : True := trivial
theorem hd0.tw15200775214083542848 : True := trivial
theorem hd0.tw15231096910501823895 : True := trivial
theorem hd0.tw15233396900245208191 : True := trivial
theorem hd0.tw15248397019474160181 : True := trivial
theorem hd0.tw1538813021119263245 : True := trivial
theorem hd0.tw15392901522555353865 : True := trivial
theorem hd0.tw15429971745270200749 : True := trivial
theorem hd0.tw15478791486184338690 : True := trivial
theorem hd0.tw15549164469732841750 : True := trivial
theorem hd0.tw15553139450688975919 : True := trivial
theorem hd0.tw15598781321256940172 : True := trivial
theorem hd0.tw15617416376691679683 : True := trivial
theorem hd0.tw15621366761432239028 : True := trivial
theorem hd0.tw1562688426800042800 : True := trivial
theorem hd0.tw15651294698572667320 : True := trivial
theorem hd0.tw15662963303021941862 : True := trivial
theorem hd0.tw15675528710725479212 : True := trivial
theorem hd0.tw15728283652489511788 : True := trivial
theorem hd0.tw15746713401997345701 : True := trivial
theorem hd0.tw15764005096722370900 : True := trivial
theorem hd0.tw15783581761236437582 : True := trivial
theorem hd0.tw15846971120892518633 : True := trivial
theorem hd0.tw15883065056585263411 : True := trivial
theorem hd0.tw15921446404595158815 : True := trivial
theorem hd0.tw15960652031959596643 : True := trivial
theorem hd0.tw1597637715128213681 : True := trivial
theorem hd0.tw1601430817000102872 : True := trivial
theorem hd0.tw16038326589278796262 : True := trivial
theorem hd0.tw16057218211864961754 : True := trivial
theorem hd0.tw16112030641436606340 : True := trivial
theorem hd0.tw16136509226700455639 : True := trivial
theorem hd0.tw16255563409837272293 : True := trivial
theorem hd0.tw16261526148008475707 : True := trivial
theorem hd0.tw16269486087580614188 : True := trivial
theorem hd0.tw16271690622389391696 : True := trivial
theorem hd0.tw16305315067834280204 : True := trivial
theorem hd0.tw16353760942946646146 : True := trivial
theorem hd0.tw16356745440860276358 : True := trivial
theorem hd0.tw16367954908017057810 : True := trivial
theorem hd0.tw16426948963021806353 : True := trivial
theorem hd0.tw16427158468746511654 : True := trivial
theorem hd0.tw16538306262251643217 : True := trivial
theorem hd0.tw16577491470658047865 : True := trivial
theorem hd0.tw16594580601805772844 : True := trivial
theorem hd0.tw1659871116806467821 : True := trivial
theorem hd0.tw16613889504466272002 : True := trivial
theorem hd0.tw16664977806865809019 : True := trivial
theorem hd0.tw1666546761208262739 : True := trivial
theorem hd0.tw16690107442442495926 : True := trivial
theorem hd0.tw1673108226327096836 : True := trivial
theorem hd0.tw16748173589141266553 : True := trivial
theorem hd0.tw16799398214865156367 : True := trivial
theorem hd0.tw16844770772499615110 : True := trivial
theorem hd0.tw16866877141584463672 : True := trivial
theorem hd0.tw16871336801076393977 : True := trivial
theorem hd0.tw1690223966290365743 : True := trivial
theorem hd0.tw16921087693971489108 : True := trivial
theorem hd0.tw16945641315097055003 : True := trivial
theorem hd0.tw16957686076751102818 : True := trivial
theorem hd0.tw16983820468018708842 : True := trivial
theorem hd0.tw1700567991170962110 : True := trivial
theorem hd0.tw17011805984709885637 : True := trivial
theorem hd0.tw17018938808108061734 : True := trivial
theorem hd0.tw17043531303389682065 : True := trivial
theorem hd0.tw17087212701041150630 : True := trivial
theorem hd0.tw17132104802792603634 : True := trivial
theorem hd0.tw17165560880091878914 : True := trivial
theorem hd0.tw17310554660023955137 : True := trivial
theorem hd0.tw17312371794062739880 : True := trivial
theorem hd0.tw17327177587765197472 : True := trivial
theorem hd0.tw17443584081481348451 : True := trivial
theorem hd0.tw17444978098136114977 : True := trivial
theorem hd0.tw17524989057665669244 : True := trivial
theorem hd0.tw17529906274252830889 : True := trivial
theorem hd0.tw17557899024913747603 : True := trivial
theorem hd0.tw17564057355376757762 : True := trivial
theorem hd0.tw17623544462552871726 : True := trivial
theorem hd0.tw17690893716680240463 : True := trivial
theorem hd0.tw17751538270359655562 : True := trivial
theorem hd0.tw17763732069537761205 : True := trivial
theorem hd0.tw17781076316100833504 : True := trivial
theorem hd0.tw17828249871568911703 : True := trivial
theorem hd0.tw17965875459906211518 : True := trivial
theorem hd0.tw17996456997027125405 : True := trivial
theorem hd0.tw179991387133551241 : True := trivial
theorem hd0.tw18078784917974338621 : True := trivial
theorem hd0.tw18098247460298835536 : True := trivial
theorem hd0.tw18132021507681513943 : True := trivial
theorem hd0.tw18134629352650391119 : True := trivial
theorem hd0.tw18135268618719461282 : True := trivial
theorem hd0.tw18143976691941029074 : True := trivial
theorem hd0.tw18186319125245921542 : True := trivial
theorem hd0.tw1824040809486260883 : True := trivial
theorem hd0.tw1830908064365640755 : True := trivial
theorem hd0.tw18310740603297040469 : True := trivial
theorem hd0.tw18353199073579788961 : True := trivial
theorem hd0.tw18416291653570748741 : True := trivial
theorem hd0.tw1862731975049639359 : True := trivial
theorem hd0.tw1903914753097239244 : True := trivial
theorem hd0.tw1904828551985836751 : True := trivial
theorem hd0.tw1958745321591857818 : True := trivial
theorem hd0.tw1963438426913184167 : True := trivial
theorem hd0.tw1967676767884184963 : True := trivial
theorem hd0.tw2008372144067494435 : True := trivial
theorem hd0.tw2080979622161356455 : True := trivial
theorem hd0.tw208745692366851961 : True := trivial
theorem hd0.tw2093440984422149139 : True := trivial
theorem hd0.tw2128425038151221735 : True := trivial
theorem hd0.tw2202114373748815983 : True := trivial
theorem hd0.tw2219251433370212802 : True := trivial
theorem hd0.tw2280702184356970510 : True := trivial
theorem hd0.tw2329996539569397640 : True := trivial
theorem hd0.tw2338661219346607142 : True := trivial
theorem hd0.tw2350088028635606421 : True := trivial
theorem hd0.tw241197298611353260 : True := trivial
theorem hd0.tw2431039718480141022 : True := trivial
theorem hd0.tw243666046294145252 : True := trivial
theorem hd0.tw2514418997314332413 : True := trivial
theorem hd0.tw2735401655943086511 : True := trivial
theorem hd0.tw2738655298557570645 : True := trivial
theorem hd0.tw2784943137000400733 : True := trivial
theorem hd0.tw2788084877741506761 : True := trivial
theorem hd0.tw2808911380250203912 : True := trivial
theorem hd0.tw2827288076518157466 : True := trivial
theorem hd0.tw2834553128231939821 : True := trivial
theorem hd0.tw2846630024949705071 : True := trivial
theorem hd0.tw2860899101727606338 : True := trivial
theorem hd0.tw2863537065255238847 : True := trivial
theorem hd0.tw2872236389525822384 : True := trivial
theorem hd0.tw2872812170981058569 : True := trivial
theorem hd0.tw2919583234286436895 : True := trivial
theorem hd0.tw2920931838809075660 : True := trivial
theorem hd0.tw3033483415405381561 : True := trivial
theorem hd0.tw309277354587492579 : True := trivial
theorem hd0.tw3093808528041796494 : True := trivial
theorem hd0.tw3179202085876152303 : True := trivial
theorem hd0.tw3198289665323921157 : True := trivial
theorem hd0.tw3333271112219793377 : True := trivial
theorem hd0.tw3361144743427637995 : True := trivial
theorem hd0.tw3406311059433270224 : True := trivial
theorem hd0.tw3465554795787012971 : True := trivial
theorem hd0.tw3478441296818514767 : True := trivial
theorem hd0.tw3525650266765315696 : True := trivial
theorem hd0.tw3532348270762500020 : True := trivial
theorem hd0.tw3540153769243320697 : True := trivial
theorem hd0.tw3563376653281826072 : True := trivial
theorem hd0.tw3614440592705372375 : True := trivial
theorem hd0.tw3640104315449746964 : True := trivial
theorem hd0.tw3687058039446345037 : True := trivial
theorem hd0.tw3687841886611527418 : True := trivial
theorem hd0.tw3771890792122485445 : True := trivial
theorem hd0.tw3783854939261827151 : True := trivial
theorem hd0.tw3794367142867343539 : True := trivial
theorem hd0.tw3801753739915242578 : True := trivial
theorem hd0.tw3832096840286635077 : True := trivial
theorem hd0.tw4061320783067801059 : True := trivial
theorem hd0.tw4116054870980984685 : True := trivial
theorem hd0.tw4130853821130465106 : True := trivial
theorem hd0.tw4148233487705422911 : True := trivial
theorem hd0.tw4301605040222552612 : True := trivial
theorem hd0.tw4319935590431654399 : True := trivial
theorem hd0.tw4320476126873396096 : True := trivial
theorem hd0.tw444321031296666723 : True := trivial
theorem hd0.tw447684426723917565 : True := trivial
theorem hd0.tw4496683107371181865 : True := trivial
theorem hd0.tw4504473542979724961 : True := trivial
theorem hd0.tw4509526690794525690 : True := trivial
theorem hd0.tw4539016668912386218 : True := trivial
theorem hd0.tw4550181199752876123 : True := trivial
theorem hd0.tw4582842965409387306 : True := trivial
theorem hd0.tw4632445285567490079 : True := trivial
theorem hd0.tw463379757040502600 : True := trivial
theorem hd0.tw4663038693165263023 : True := trivial
theorem hd0.tw4691257246625332865 : True := trivial
theorem hd0.tw4747281084397564757 : True := trivial
theorem hd0.tw474916242839058 : True := trivial
theorem hd0.tw475519468955650494 : True := trivial
theorem hd0.tw479961326324540766 : True := trivial
theorem hd0.tw4835004971785622705 : True := trivial
theorem hd0.tw4837166207565515596 : True := trivial
theorem hd0.tw4864754268065981865 : True := trivial
theorem hd0.tw48920468559051274 : True := trivial
theorem hd0.tw4909664616505572318 : True := trivial
theorem hd0.tw4958161400511572651 : True := trivial
theorem hd0.tw4964845553990846222 : True := trivial
theorem hd0.tw4983706646000405154 : True := trivial
theorem hd0.tw5009392681941405746 : True := trivial
theorem hd0.tw5099789754451425677 : True := trivial
theorem hd0.tw5145303074121384310 : True := trivial
theorem hd0.tw5173078720295292078 : True := trivial
theorem hd0.tw5215330951671769291 : True := trivial
theorem hd0.tw5223386943819690705 : True := trivial
theorem hd0.tw5244145174254350547 : True := trivial
theorem hd0.tw5271022457499508285 : True := trivial
theorem hd0.tw5328798070617476075 : True := trivial
theorem hd0.tw5336939312866089149 : True := trivial
theorem hd0.tw5341192815897622196 : True := trivial
theorem hd0.tw5353220722972676460 : True := trivial
theorem hd0.tw5354866172724995518 : True := trivial
theorem hd0.tw5364393782896679965 : True := trivial
theorem hd0.tw5393086615926188543 : True := trivial
theorem hd0.tw539940733940218950 : True := trivial
theorem hd0.tw5428070130070536091 : True := trivial
theorem hd0.tw5429866549726478036 : True := trivial
theorem hd0.tw543060588611493414 : True := trivial
theorem hd0.tw545614883460498859 : True := trivial
theorem hd0.tw5461055050941286108 : True := trivial
theorem hd0.tw5476550517563732157 : True := trivial
theorem hd0.tw5484117130419629514 : True := trivial
theorem hd0.tw5487660210450000937 : True := trivial
theorem hd0.tw5583339228994031707 : True := trivial
theorem hd0.tw5641299431439701213 : True := trivial
theorem hd0.tw5677135109947497480 : True := trivial
theorem hd0.tw5677194259293420247 : True := trivial
theorem hd0.tw5721069425725921740 : True := trivial
theorem hd0.tw5814328120849822248 : True := trivial
theorem hd0.tw5851460317537991607 : True := trivial
theorem hd0.tw585297023151507021 : True := trivial
theorem hd0.tw5873444610005042059 : True := trivial
theorem hd0.tw6014977574509414443 : True := trivial
theorem hd0.tw6062643184621189875 : True := trivial
theorem hd0.tw6070584094110415979 : True := trivial
theorem hd0.tw6134885170197741980 : True := trivial
theorem hd0.tw6175420903726235015 : True := trivial
theorem hd0.tw6253368036500149347 : True := trivial
theorem hd0.tw6302951332473218875 : True := trivial
theorem hd0.tw6304940225609730636 : True := trivial
theorem hd0.tw6326191274288118561 : True := trivial
theorem hd0.tw6414887533649200790 : True := trivial
theorem hd0.tw650764759088172349 : True := trivial
theorem hd0.tw6518245875282815045 : True := trivial
theorem hd0.tw6595308224653121280 : True := trivial
theorem hd0.tw6616126784023765927 : True := trivial
theorem hd0.tw6663726501131112074 : True := trivial
theorem hd0.tw666637029103987267 : True := trivial
theorem hd0.tw6675033689688884099 : True := trivial
theorem hd0.tw6893331240596464896 : True := trivial
theorem hd0.tw6998471644465347158 : True := trivial
theorem hd0.tw7236157760442490695 : True := trivial
theorem hd0.tw7237386881181516464 : True := trivial
theorem hd0.tw7252911797259916394 : True := trivial
theorem hd0.tw7288751869163876638 : True := trivial
theorem hd0.tw7359261033328424013 : True := trivial
theorem hd0.tw7390102671040694236 : True := trivial
theorem hd0.tw7415385052924869713 : True := trivial
theorem hd0.tw7493280530175958909 : True := trivial
theorem hd0.tw7535352132141763260 : True := trivial
theorem hd0.tw7579484373256523769 : True := trivial
theorem hd0.tw7604119010897642556 : True := trivial
theorem hd0.tw7609028302745033977 : True := trivial
theorem hd0.tw7614193382627860833 : True := trivial
theorem hd0.tw7639661606733977184 : True := trivial
theorem hd0.tw7647748658271166302 : True := trivial
theorem hd0.tw7731734453053413589 : True := trivial
theorem hd0.tw7746724291664459861 : True := trivial
theorem hd0.tw7754451475289968488 : True := trivial
theorem hd0.tw7762228098215924476 : True := trivial
theorem hd0.tw7808699968346434859 : True := trivial
theorem hd0.tw7826759426205029736 : True := trivial
theorem hd0.tw7895234915340226546 : True := trivial
theorem hd0.tw789673355000652139 : True := trivial
theorem hd0.tw7937780131228529215 : True := trivial
theorem hd0.tw7970355855660570498 : True := trivial
theorem hd0.tw7971345679002030817 : True := trivial
theorem hd0.tw8016032594811649588 : True := trivial
theorem hd0.tw8052174542758884176 : True := trivial
theorem hd0.tw8053029068741257462 : True := trivial
theorem hd0.tw8066634004926191738 : True := trivial
theorem hd0.tw8077860469154291183 : True := trivial
theorem hd0.tw8125271861009673391 : True := trivial
theorem hd0.tw8239782323564299538 : True := trivial
theorem hd0.tw8284464484006228044 : True := trivial
theorem hd0.tw8335639332613301527 : True := trivial
theorem hd0.tw839443794188527141 : True := trivial
theorem hd0.tw8406137298663115206 : True := trivial
theorem hd0.tw8412496611741829076 : True := trivial
theorem hd0.tw8413799840646086991 : True := trivial
theorem hd0.tw8428931017558521197 : True := trivial
theorem hd0.tw8437564595239901655 : True := trivial
theorem hd0.tw8445946584241079207 : True := trivial
theorem hd0.tw8464541185895156213 : True := trivial
theorem hd0.tw8472709252117196360 : True := trivial
theorem hd0.tw8503028519756171898 : True := trivial
theorem hd0.tw8575195297261919627 : True := trivial
theorem hd0.tw8753875272357604297 : True := trivial
theorem hd0.tw8829411451785746636 : True := trivial
theorem hd0.tw8860506098235749104 : True := trivial
theorem hd0.tw8907265306392417265 : True := trivial
theorem hd0.tw891186494875849158 : True := trivial
theorem hd0.tw8913561755670897571 : True := trivial
theorem hd0.tw8989800094379352571 : True := trivial
theorem hd0.tw9001251600818444179 : True := trivial
theorem hd0.tw901327545473398541 : True := trivial
theorem hd0.tw9056650140919055547 : True := trivial
theorem hd0.tw9059920523635683277 : True := trivial
theorem hd0.tw906593335335552129 : True := trivial
theorem hd0.tw9093035500182609678 : True := trivial
theorem hd0.tw9115860346242966872 : True := trivial
theorem hd0.tw9158488875951367014 : True := trivial
theorem hd0.tw9263301239724254889 : True := trivial
theorem hd0.tw9329844393346596601 : True := trivial
theorem hd0.tw9385747698160950831 : True := trivial
theorem hd0.tw9402539598613710537 : True := trivial
theorem hd0.tw9454721371543059285 : True := trivial
theorem hd0.tw9526941815458186415 : True := trivial
theorem hd0.tw9563851893216371074 : True := trivial
theorem hd0.tw961968547571948100 : True := trivial
theorem hd0.tw9622248605331731502 : True := trivial
theorem hd0.tw9632985906301461538 : True := trivial
theorem hd0.tw9636976457204810352 : True := trivial
theorem hd0.tw969906580991398210 : True := trivial
theorem hd0.tw9777354187630944624 : True := trivial
theorem hd0.tw9802666196054454208 : True := trivial
theorem hd0.tw9834784931133436917 : True := trivial
theorem hd0.tw9846644877726163059 : True := trivial
theorem hd0.tw9915369828831269134 : True := trivial
theorem hd0.tw9920712778304440653 : True := trivial
theorem useH {T P : Prop} (_ : T) (p : P) : P := p
theorem swapHook {K : Params → Frag} {as : List Addr} {e' e : ∀ P, as = (K P).map (·.1)} {q : Program} {loose : List Str} {XP : (Str → Option Value) → Heap → Prop} {r : RowW} {d : DefRec} {kwd : List (Str × Expr)} {f : Value → List Value → Sem Value} (x : WalkO q loose XP (kHook K as e').says r d kwd f) : WalkO q loose XP (kHook K as e).says r d kwd f := x
section
set_option hygiene false in
local macro_rules | `(tactic| o_head (kHook $a $b $c)) => `(tactic| o_head ((kHook $a $b (useH h $c))))
set_option Elab.async true in
theorem hd0 : ∃ T : Prop, T → PySem.Challenge.rw_ok0019_01.Holds := by
  refine' ⟨?T, ?p⟩
  case p =>
    as_aux_lemma =>
      intro h
      w_on
      o_law
      k_head
      (case hw => w_witness2)
      refine swapHook (e' := fun _ => by kernel_rfl) ?_
      assumption
end
/-- hd0 turned the lines of the file's top on: off again -/
theorem off0 : hd0.heap_1_39 = hd0.heap_1_39 := by
  w_top off
  rfl
section
/-- the surroundings in which a def's body is walked -/
abbrev Ar (D U : Nat) (fr : List Env) : Around := { handled := none, depth := D, frames := some fr, guards := none, units := U }

/-- what a call needs of the heap: its mutable objects, fresh over the base, and no frame of the stack -/
structure Rdy (A : Around) (base : Heap) (outer : List Env) (h : Heap) (mods : List (Addr × Obj)) : Prop where
  hand : A.handled = none
  below : Below A base outer h
  at_ : ∀ p ∈ mods, h.get? p.1 = some p.2
  new : ∀ p ∈ mods, base.get? p.1 = none
  off : ∀ p ∈ mods, ∀ env ∈ outer, env.frame ≠ some p.1

/-- all that stands outside of `as` stands as it stood -/
def Keeps (as : List Addr) (h h' : Heap) : Prop := ∀ b o, h.get? b = some o → b ∉ as → h'.get? b = some o

theorem wpAny_more {α : Type} {M : Model} {A A' : Around} {t : Sem α} {Q : α → Shared → Prop} {E : Value → Shared → Prop} {s : Shared} (h : wpAny M A' t Q E s)
    (h1 : A.handled = A'.handled) (h2 : A.depth ≤ A'.depth) (h3 : ∀ l, A'.frames = some l → A.frames = some l) (h4 : ∀ l, A'.guards = some l → A.guards = some l) (h5 : A.units ≤ A'.units) : wpAny M A t Q E s :=
  fun Γ p hΓ => h Γ p ⟨hΓ.1.trans h1, Nat.le_trans hΓ.2.1 h2, fun l hl => hΓ.2.2.1 l (h3 l hl), fun l hl => hΓ.2.2.2.1 l (h4 l hl), Nat.le_trans hΓ.2.2.2.2 h5⟩

theorem Rdy.hide {A : Around} {base h : Heap} {outer : List Env} {mods : List (Addr × Obj)} (R : Rdy A base outer h mods) : Below A base outer (hideAll h (mods.map (·.1))) := by
  refine ⟨R.below.stack, fun b o e => hideAll_get _ (R.below.stays b o e) fun q => ?_, funFrames_hideAll R.below.frames fun env he b hb hf => ?_⟩
  · obtain ⟨p, hp, rfl⟩ := List.mem_map.mp q
    rw [R.new p hp] at e; cases e
  · obtain ⟨p, hp, rfl⟩ := List.mem_map.mp hb
    exact R.off p hp env he hf

/-- continuations by name: what stands behind a def's body, behind a statement, behind a test -/
def retK (R : Result → Shared → Prop) (fl : Flow) (s : Shared) : Prop := R (.ok (.ret (match fl with | .ret v => v | _ => .none))) s
def seqK (M : Model) (A : Around) (rest : List Stmt) (env : Env) (Q : Flow → Shared → Prop) (E : Value → Shared → Prop) (f : Flow) (s : Shared) : Prop := match f with | .next => wpAny M A (execs rest env) Q E s | f => Q f s
def ifK (M : Model) (A : Around) (a b : List Stmt) (env : Env) (Q : Flow → Shared → Prop) (E : Value → Shared → Prop) (c : Bool) (s : Shared) : Prop := if c then wpAny M A (execs a env) Q E s else wpAny M A (execs b env) Q E s
section
variable {M : Model} {A : Around} {a b rest : List Stmt} {st st' : Stmt} {env : Env} {Q : Flow → Shared → Prop} {E : Value → Shared → Prop} {s : Shared} {R : Result → Shared → Prop} {v : Value} {c : Bool} {test : PySem.Expr} {pos : Pos}
theorem retK_ret (h : R (.ok (.ret v)) s) : retK R (.ret v) s := h
theorem retK_next (h : R (.ok (.ret .none)) s) : retK R .next s := h
theorem seq2 (h : wpAny M A (exec st env) (seqK M A (st' :: rest) env Q E) E s) : wpAny M A (execs (st :: st' :: rest) env) Q E s :=
  wpAny_execs_cons (wpAny_mono h (fun f _ h => by cases f <;> exact h) fun _ _ h => h)
theorem seq1 (h : wpAny M A (exec st env) Q E s) : wpAny M A (execs [st] env) Q E s :=
  wpAny_execs_cons (wpAny_mono h (fun f _ h => by cases f <;> first | exact h | exact wpAny_execs_nil h) fun _ _ h => h)
theorem seqK_next (h : wpAny M A (execs rest env) Q E s) : seqK M A rest env Q E .next s := h
theorem seqK_ret (h : Q (.ret v) s) : seqK M A rest env Q E (.ret v) s := h
theorem seqK_brk (h : Q .brk s) : seqK M A rest env Q E .brk s := h
theorem seqK_cont (h : Q .cont s) : seqK M A rest env Q E .cont s := h
theorem ifL (h : wpAny M A (isTrue test env (eval test env)) (ifK M A a b env Q E) E s) : wpAny M A (exec (.If test a b pos) env) Q E s := wpAny_If h
theorem ifK_T (hc : c = true) (h : wpAny M A (execs a env) Q E s) : ifK M A a b env Q E c s := by unfold ifK; rw [if_pos hc]; exact h
theorem ifK_F (hc : c = false) (h : wpAny M A (execs b env) Q E s) : ifK M A a b env Q E c s := by unfold ifK; rw [hc, if_neg Bool.false_ne_true]; exact h
theorem ifK_N (hc : ¬ c = true) (h : wpAny M A (execs b env) Q E s) : ifK M A a b env Q E c s := by unfold ifK; rw [if_neg hc]; exact h
theorem ifK_F0 (hc : c = false) (h : Q .next s) : ifK M A a [] env Q E c s := ifK_F hc (wpAny_execs_nil h)
theorem ifK_N0 (hc : ¬ c = true) (h : Q .next s) : ifK M A a [] env Q E c s := ifK_N hc (wpAny_execs_nil h)
theorem ifK_open (h : if c = true then wpAny M A (execs a env) Q E s else wpAny M A (execs b env) Q E s) : ifK M A a b env Q E c s := h
end

section
variable {prog : Program} {w : World} {A : Around} {s : Shared} {K : Frag} {base : Heap} {outer : List Env} {mg mb : Str → Option Value} {p : Program} {loose : List Str} {mean : ExcName → Option Value} {mods : List (Addr × Obj)}
  {R : Result → Shared → Prop} {name qual : Str} {params : Arguments} {body : List Stmt} {scope : Scope} {dV kV doc pm cdv ct oc : Value} {an od : Option Addr} {osl : Array (Option Value)} {f : Addr} {args : Args} {binds : List (Str × Value)}

theorem enter (Dp Un : Nat) (D : Rdy A base outer s.heap mods) (X : K.In base) (T : Top p loose mean mg mb base) (hd : A.depth ≤ Dp) (hu : A.units ≤ Un)
    (ho : K.lookup f = some ⟨oc, od, .func (fnOf name qual params body scope dV kV doc pm an cdv ct), osl⟩) (hcd : codeIn K cdv qual = true) (hroom : Dp < recursionLimit)
    (hbind : BindsTo s (fnOf name qual params body scope dV kV doc pm an cdv ct) args binds) (hloc : ∀ y ∈ binds, scope.names.lookup y.1 = some .local)
    (h : ∀ g L h₁ tk, L = s.heap.objs.size → (∀ b o, s.heap.get? b = some o → b ∉ mods.map (·.1) → g.get? b = some o) → (∀ b o, g.get? b = some o → s.heap.get? b = some o) →
      Fr g L h₁ (fun y => binds.reverse.lookup y) → News g L h₁ mods → (∀ p ∈ mods, p.1 < L) →
      Below A base outer g → K.In g → Top p loose mean mg mb g →
      let env := envOf qual scope L f cdv
      wpAny (model prog w) (Ar (Dp + 1) (Un + 3) (env :: outer)) (execs body env)
        (retK R) (fun _ _ => False) { s with heap := h₁, toks := tk })
    (hco : scope.isCoroutine = false) (hgen : scope.isGenerator = false) (hk : scope.kind = .function)
    (hcell : ∀ x ∈ scope.names, x.2 ≠ .cell) : codeAny (model prog w) A (.call (.ref f) args) R s := by
  have B := D.hide
  have st := B.stays
  refine codeAny_call_def (fd := fnOf name qual params body scope dV kV doc pm an cdv ct) (body := body) (binds := binds) (Nat.lt_of_le_of_lt hd hroom) (D.below.stays _ _ (X _ _ ho)) rfl (T.nolimit.keeps D.below.stays) (codeRec_of (X.keeps D.below.stays) hcd) rfl hbind hcell hloc (fun h₁ hns hk₁ => ?_) hco hgen hk
  refine wpAny_more (A' := Ar (Dp + 1) (Un + 3) (envOf qual scope s.heap.objs.size f cdv :: outer)) ?_ D.hand (Nat.succ_le_succ hd) (fun l hl => ?_) (fun l hl => nomatch hl) (Nat.add_le_add_right hu 3)
  · refine wpAny_mono (h (hideAll s.heap (mods.map (fun x : Addr × Obj => x.1))) s.heap.objs.size h₁ _ rfl (fun b o e n => hideAll_get _ e n) (fun b o e => of_hideAll _ e) ⟨hns, fun b o e => hk₁ b o (of_hideAll _ e), Nat.le_of_eq (hideAll_size _ _)⟩
      (fun p hp => ⟨hk₁ _ _ (D.at_ p hp), Nat.ne_of_lt (Heap.lt_size (D.at_ p hp)), hideAll_none _ (List.mem_map_of_mem hp)⟩) (fun p hp => Heap.lt_size (D.at_ p hp)) B (X.keeps (fun b o e => st b o e)) (T.keeps (fun b o e => st b o e))) (fun _ _ y => y) fun _ _ y => y.elim
  · show A.frames.map _ = _
    rw [D.below.stack]; exact hl
end

section
variable {A : Around} {base g h h' : Heap} {L : Addr} {m : Str → Option Value} {news : List (Addr × Obj)} {as : List Addr} {env : Env} {outer : List Env} {mods : List (Addr × Obj)}

/-- a call out of a def's body -/
theorem Rdy.nest {A₀ : Around} (B : Below A₀ base outer g) (F : Fr g L h m) (N : News g L h mods) (hh : A.handled = none) (hA : A.frames = some (env :: outer)) (hf : env.frame = some L) (hke : env.scope.kind = .function) : Rdy A base (env :: outer) h mods := by
  have B' := pushX B F hf hke
  refine ⟨hh, ⟨hA, B'.stays, B'.frames⟩, fun p hp => (N p hp).1, fun p hp => ?_, fun p hp env' he hq => ?_⟩
  · cases q : base.get? p.1 with
    | none => rfl
    | some o => have := B.stays _ _ q; rw [(N p hp).2.2] at this; cases this
  · cases he with
    | head => rw [hf] at hq; exact (N p hp).2.1 (Option.some.inj hq).symm
    | tail _ he =>
      obtain ⟨L₁, o₁, hf₁, ho₁⟩ := funFrames_in B.frames env' he
      rw [hf₁] at hq
      rw [Option.some.inj hq, (N p hp).2.2] at ho₁; cases ho₁

/-- behind a call: the frame -/
theorem frAfter (F : Fr g L h m) (N : News g L h mods) (hK : Keeps (mods.map (·.1)) h h') : Fr g L h' m := by
  obtain ⟨oL, es, ep, h1, h2⟩ := F.ns
  refine ⟨⟨oL, es, ep, hK _ _ h1 fun q => ?_, h2⟩, fun b o e => hK b o (F.keep b o e) fun q => ?_, F.above⟩
  · obtain ⟨p, hp, e⟩ := List.mem_map.mp q
    exact (N p hp).2.1 e
  · obtain ⟨p, hp, rfl⟩ := List.mem_map.mp q
    rw [(N p hp).2.2] at e; cases e

theorem newsSub {news' : List (Addr × Obj)} (N : News g L h news) (hs : ∀ p ∈ news', p ∈ news) : News g L h news' := fun p hp => N p (hs p hp)

/-- what stands at these places of a list -/
def selN {α : Type} (l : List α) : List Nat → List α
  | [] => []
  | i :: r => match l[i]? with
    | some x => x :: selN l r
    | none => selN l r
theorem selN_mem {α : Type} {l : List α} {x : α} : ∀ {is : List Nat}, x ∈ selN l is → x ∈ l
  | i :: r, h => by
    unfold selN at h
    cases e : l[i]? with
    | none => rw [e] at h; exact selN_mem h
    | some y =>
      rw [e] at h
      rcases List.mem_cons.mp h with rfl | h
      · exact List.mem_of_getElem? e
      · exact selN_mem h
theorem newsSel {l tl news' : List (Addr × Obj)} (N : News g L h (l ++ tl)) (is : List Nat) (e : selN l is ++ tl = news') : News g L h news' := by
  subst e
  intro p hp
  rcases List.mem_append.mp hp with hp | hp
  · exact N p (List.mem_append_left _ (selN_mem hp))
  · exact N p (List.mem_append_right _ hp)
theorem allC {α : Type} {P : α → Prop} {a : α} {l : List α} (x : P a) (y : ∀ p ∈ l, P p) : ∀ p ∈ a :: l, P p := fun p hp => by
  rcases List.mem_cons.mp hp with rfl | hp
  · exact x
  · exact y p hp
theorem allE {α : Type} {P : α → Prop} : ∀ p ∈ ([] : List α), P p := fun _ hp => nomatch hp
theorem allA {α : Type} {P : α → Prop} {l l' : List α} (x : ∀ p ∈ l, P p) (y : ∀ p ∈ l', P p) : ∀ p ∈ l ++ l', P p := fun p hp => by
  rcases List.mem_append.mp hp with hp | hp
  · exact x p hp
  · exact y p hp
theorem offC {a c : Addr} {o : Obj} {l : List (Addr × Obj)} (x : a ≠ c) (y : ∀ p ∈ l, p.1 ≠ c) : ∀ p ∈ (a, o) :: l, p.1 ≠ c := fun p hp => by
  rcases List.mem_cons.mp hp with rfl | hp
  · exact x
  · exact y p hp
theorem nmC {α : Type} {a b : α} {l : List α} (x : a ≠ b) (y : a ∉ l) : a ∉ b :: l := fun h => by
  rcases List.mem_cons.mp h with e | h
  · exact x e
  · exact y h
theorem nmE {α : Type} {a : α} : a ∉ ([] : List α) := fun h => nomatch h
theorem offE {c : Addr} : ∀ p ∈ ([] : List (Addr × Obj)), p.1 ≠ c := fun _ hp => nomatch hp
theorem memK {α : Type} {l : List α} {x : α} (k : Nat) (e : l[k]? = some x) : x ∈ l := List.mem_of_getElem? e
/-- behind a call that turns one object -/
theorem newsAfter1 {q : Addr} {o o' : Obj} {news' : List (Addr × Obj)} (N : News g L h news) (U : Upd q o o' news news') (hK : Keeps [q] h h') (hq : h'.get? q = some o') : News g L h' news' := by
  obtain ⟨pre, post, rfl, rfl, a, c⟩ := U.split
  have D := N (q, o) (by simp)
  intro p hp
  rcases List.mem_append.mp hp with z | z
  · have P := N p (List.mem_append_left _ z)
    exact ⟨hK _ _ P.1 (by simpa using a p z), P.2⟩
  · rcases List.mem_cons.mp z with rfl | z
    · exact ⟨hq, D.2⟩
    · have P := N p (List.mem_append_right _ (.tail _ z))
      exact ⟨hK _ _ P.1 (by simpa using c p z), P.2⟩
theorem newNone {r : Addr} (F : Fr g L h m) (hn : h.get? r = none) : g.get? r = none := by
  cases q : g.get? r with
  | none => rfl
  | some o => rw [F.keep _ _ q] at hn; cases hn
theorem newNe {r : Addr} (F : Fr g L h m) (hn : h.get? r = none) : r ≠ L := by
  rintro rfl
  obtain ⟨oL, es, ep, h1, h2⟩ := F.ns
  rw [h1] at hn; cases hn
theorem nm1 {a b : Nat} (h : b ≠ a) : a ∉ [b] := fun q => h (List.mem_singleton.mp q).symm
theorem newsCons {r : Addr} {o : Obj} (N : News g L h news) (e : h.get? r = some o) (n : r ≠ L) (f : g.get? r = none) : News g L h ((r, o) :: news) := fun p hp => by
  rcases List.mem_cons.mp hp with rfl | hp
  · exact ⟨e, n, f⟩
  · exact N p hp
theorem iteT {c : Prop} [Decidable c] {P Q : Prop} (h : c) (x : P) : if c then P else Q := by rw [if_pos h]; exact x
theorem iteF {c : Prop} [Decidable c] {P Q : Prop} (h : ¬ c) (x : Q) : if c then P else Q := by rw [if_neg h]; exact x
/-- a call that turns nothing -/
theorem keeps0 {mods : List (Addr × Obj)} (at0 : ∀ p ∈ mods, h.get? p.1 = some p.2) (hg : ∀ b o, h.get? b = some o → b ∉ mods.map (·.1) → g.get? b = some o) (F : Fr g L h' m) (N : News g L h' news) (sub : ∀ p ∈ mods, p ∈ news) : Keeps [] h h' := fun b o e _ => by
  by_cases hb : b ∈ mods.map (·.1)
  · obtain ⟨p, hp, rfl⟩ := List.mem_map.mp hb
    have := at0 p hp
    rw [e] at this
    cases this
    exact (N p (sub p hp)).1
  · exact F.keep b o (hg b o e hb)
theorem keepsM {mods : List (Addr × Obj)} (at0 : ∀ p ∈ mods, h.get? p.1 = some p.2) (hg : ∀ b o, h.get? b = some o → b ∉ mods.map (·.1) → g.get? b = some o) (F : Fr g L h' m) (N : News g L h' news) (as : List Addr) (sub : ∀ p ∈ mods, p.1 ∈ as ∨ p ∈ news) : Keeps as h h' := fun b o e n => by
  by_cases hb : b ∈ mods.map (·.1)
  · obtain ⟨p, hp, rfl⟩ := List.mem_map.mp hb
    have := at0 p hp
    rw [e] at this
    cases this
    exact (N p ((sub p hp).resolve_left n)).1
  · exact F.keep b o (hg b o e hb)
def AllNe (d : Addr) : List (Addr × Obj) → Prop
  | [] => True
  | p :: r => @Ne Nat p.1 d ∧ AllNe d r
theorem allNe_of {d : Addr} : ∀ {l : List (Addr × Obj)}, (∀ p ∈ l, p.1 ≠ d) → AllNe d l
  | [], _ => trivial
  | p :: _, h => ⟨h p (.head _), allNe_of fun q hq => h q (.tail _ hq)⟩
theorem newsAfter0 (N : News g L h news) (hK : Keeps [] h h') : News g L h' news := fun p hp => ⟨hK _ _ (N p hp).1 (by simp), (N p hp).2⟩
theorem Keeps.refl (as : List Addr) (h : Heap) : Keeps as h h := fun _ _ e _ => e
theorem Keeps.trans {as : List Addr} {h₁ h₂ h₃ : Heap} (x : Keeps as h₁ h₂) (y : Keeps as h₂ h₃) : Keeps as h₁ h₃ := fun b o e n => y b o (x b o e n) n
theorem updMem {q : Addr} {o o' : Obj} {news' : List (Addr × Obj)} (U : Upd q o o' news news') : (q, o) ∈ news := by
  obtain ⟨pre, post, rfl, rfl, _, _⟩ := U.split; simp
end

/-- all addresses of a ledger lie below d, with no True at the end -/
def LtFrom (d : Nat) : Addr × Obj → List (Addr × Obj) → Prop
  | p, [] => @LT.lt Nat _ p.1 d
  | p, q :: r => @LT.lt Nat _ p.1 d ∧ LtFrom d q r
def AllLtO (d : Nat) : List (Addr × Obj) → Prop
  | [] => True
  | p :: r => LtFrom d p r
theorem ltFrom_of {d : Addr} : ∀ {l : List (Addr × Obj)} {p : Addr × Obj}, (∀ q ∈ p :: l, q.1 < d) → LtFrom d p l
  | [], p, h => h p (.head _)
  | q :: r, p, h => ⟨h p (.head _), ltFrom_of fun x hx => h x (.tail _ hx)⟩
theorem allLtO_of {d : Addr} : ∀ {l : List (Addr × Obj)}, (∀ p ∈ l, p.1 < d) → AllLtO d l
  | [], _ => trivial
  | _ :: _, h => ltFrom_of h
/-- literals, with the state written out -/
theorem cInt {M : Model} {A : Around} {env : Env} {hp : Heap} {gs : Array GenState} {dr : Drawn} {tk : Nat} {os : OsState} {i : Int} {k : Nat} {pos : Pos} {Q : Value → Shared → Prop} {E : Value → Shared → Prop} (h : Q (.int i tk) ⟨hp, gs, dr, tk + 1, os⟩) :
    wpAny M A (eval (.Constant (.int i) k pos) env) Q E ⟨hp, gs, dr, tk, os⟩ := wpAny_Constant_int h
theorem cStr {M : Model} {A : Around} {env : Env} {hp : Heap} {gs : Array GenState} {dr : Drawn} {tk : Nat} {os : OsState} {x : Str} {k : Nat} {pos : Pos} {Q : Value → Shared → Prop} {E : Value → Shared → Prop} (h : Q (.str x tk) ⟨hp, gs, dr, tk + 1, os⟩) :
    wpAny M A (eval (.Constant (.str x) k pos) env) Q E ⟨hp, gs, dr, tk, os⟩ := Calls.Constant_str h
/-- a local text against a literal -/
theorem tEqStr {prog : Program} {w : World} {A : Around} {h₀ hp : Heap} {gs : Array GenState} {dr : Drawn} {tk : Nat} {os : OsState} {L a : Addr} {m : Str → Option Value} {cn : Str} {cs : Scope} {ccd : Value} {cl : List (Str × Addr)} {x v lit : Str} {t : Tok} {k : Nat} {p1 p2 p3 : Pos} {whole : Sem Value} {Q : Bool → Shared → Prop} {E : Value → Shared → Prop}
    (F : Fr h₀ L hp m) (hv : m x = some (.str v t)) (h : Q (v == lit) ⟨hp, gs, dr, tk + 1, os⟩)
    (hk : cs.kind = .function := by rfl) (hx : (envX cn cs L a ccd cl).kindOf x = some .local := by rfl) (hd : (x == ("__debug__" : Str)) = false := by decide) (hm : behindInMarks .Eq (.Constant (.str lit) k p2) = false := by rfl) :
    wpAny (model prog w) A (isTrue (.Compare (.Name x p1) [.Eq] [.Constant (.str lit) k p2] p3) (envX cn cs L a ccd cl) whole) Q E ⟨hp, gs, dr, tk, os⟩ :=
  wpAny_isTrue_Compare1 (nameX_L (s := ⟨hp, gs, dr, tk, os⟩) F hv (cStr (PyProof.Rows.eq_str (wpAny_truthy_bool h))) hk hx hd) hm
end
local macro_rules | `(tactic| k_lt $h:ident) => `(tactic| (replace $h := allLtO_of $h; dsimp only [AllLtO, LtFrom] at $h:ident))
local macro_rules | `(tactic| walk_at "eval Constant int") => `(tactic| with_reducible refine cInt ?_)
local macro_rules | `(tactic| walk_at "isTrue Compare") => `(tactic| (k_here; (fail_if_success (fail_if_success (with_reducible show wpAny _ _ (isTrue (PySem.Expr.Compare (PySem.Expr.Name _ _) [CmpOp.Eq] [PySem.Expr.Constant (Const.str _) _ _] _) _ _) _ _ _))); k_dflt (refine' tEqStr ?k1 ?k2 ?_; (case k1 => k_asm); (case k2 => exact rfl); k_whole)))
local macro_rules | `(tactic| walk_at "execs cons") => `(tactic| with_reducible (first | refine seq1 ?_ | refine seq2 ?_))
local macro_rules | `(tactic| walk_at "execs cons") => `(tactic| (k_here; (fail_if_success (fail_if_success (with_reducible show wpAny _ _ _ _ _ ⟨_, _, _, _ + 1 + 1 + 1 + 1 + 1 + 1 + 1 + 1, _⟩))); k_gentoks))
local macro_rules | `(tactic| walk_at "execs nil") => `(tactic| with_reducible refine wpAny_execs_nil ?_)
local macro_rules | `(tactic| walk_at "exec If") => `(tactic| with_reducible refine ifL ?_)
local macro_rules | `(tactic| walk_at "eval Constant str") => `(tactic| with_reducible refine cStr ?_)
local macro_rules | `(tactic| walk_at "my step") => `(tactic| ((fail_if_success (with_reducible show wpAny _ _ (call (Value.ref _) _) _ _ _)); (fail_if_success (with_reducible show wpAny _ _ (eval (Expr.ListComp _ _ _ _) _) _ _ _)); (first | (k_unfold; (try dsimp only)) | ((fail_if_success (with_reducible show wpAny _ _ _ _ _ _)); (first | with_reducible refine seqK_next ?_ | with_reducible refine seqK_ret ?_ | with_reducible refine retK_ret ?_ | with_reducible refine retK_next ?_ | with_reducible refine seqK_brk ?_ | with_reducible refine seqK_cont ?_ | (with_reducible refine' ifK_T ?hc ?hx; (case hc => (first | with_reducible assumption | decide))) | (with_reducible refine' ifK_F0 ?hc ?hx; (case hc => (first | with_reducible assumption | decide))) | (with_reducible refine' ifK_N0 ?hc ?hx; (case hc => with_reducible assumption)) | (with_reducible refine' ifK_F ?hc ?hx; (case hc => (first | with_reducible assumption | decide))) | (with_reducible refine' ifK_N ?hc ?hx; (case hc => with_reducible assumption)) | with_reducible refine ifK_open ?_ | walk_at "my out")) | ((fail_if_success (fail_if_success (with_reducible show ite _ _ _))); (first | (with_reducible refine' iteT ?hc ?hx; (case hc => first | with_reducible assumption | decide); (try dsimp only)) | (with_reducible refine' iteF ?hc ?hx; (case hc => first | with_reducible assumption | decide); (try dsimp only)))) | (walk1 <;> (try dsimp only)) | (dsimp only; walk1))))
local macro_rules | `(tactic| walk_at "my enter") => `(tactic| ((case k6 => k_is); (case k7 => k_is); (case k8 => decide); (case k9 => exact BindsTo.of_eq rfl); (case kB => exact locs rfl); (case c2 => exact rfl); (case c3 => exact rfl); (case c4 => exact rfl); (case c5 => decide)))
section
abbrev MM (w : World) : Model := model PySem.Challenge.rw_ok0019_01.row.prog w
/-- what stands at the base -/
structure Wd (w : World) (base : Heap) (p : Program) (loose : List Str) (mean : ExcName → Option Value) (mg mb : Str → Option Value) : Prop where
  X : (hd0.heap_1_39 w.params).In base
  T : Top p loose mean mg mb base
/-- a queue of draws -/
def QOk (o : Obj) : Prop := ∃ its n ns, o = listOf (its : List Value).toArray n ∧ IntsAre its ns ∧ (∀ v ∈ ns, 0 ≤ v ∧ v < 900) ∧ ns.length ≤ 150
section
variable {as : List Addr} {h h' g : Heap} {L D : Addr} {m : Str → Option Value}
theorem keepsOf (hg : ∀ b o, h.get? b = some o → b ∉ as → g.get? b = some o) (F : Fr g L h' m) : Keeps as h h' := fun b o e n => F.keep b o (hg b o e n)
theorem freshOf (hg : ∀ b o, h.get? b = some o → b ∉ as → g.get? b = some o) (e : g.get? D = none) (n : D ∉ as) : h.get? D = none := by
  cases q : h.get? D with
  | none => rfl
  | some o => rw [hg _ _ q n] at e; cases e
end
abbrev tupO (l : List Value) : Obj := { cls := .type "tuple", data := .seq l.toArray }
def rn : Bool → Str | true => Str.ofString "x" | false => Str.ofString "y"
def RgOk (b : Bool) (k : Int) : Prop := 1 ≤ k ∧ k ≤ 3 ∧ (b = false → k ≤ 2)
def IsRg (h : Heap) (a : Addr) (b : Bool) (k : Int) : Prop := ∃ t t', h.get? a = some (tupO [.str (rn b) t, .int k t'])
/-- the objects at `as` are no tuples -/
def NT (h : Heap) (as : List Addr) : Prop := ∀ a ∈ as, ∀ o, h.get? a = some o → o.cls ≠ .type "tuple"
theorem IsRg.keep {h h' : Heap} {as : List Addr} {a : Addr} {b : Bool} {k : Int} (x : IsRg h a b k) (hK : Keeps as h h') (n : NT h as) : IsRg h' a b k := by
  obtain ⟨t, t', e⟩ := x
  exact ⟨t, t', hK _ _ e fun q => n a q _ e rfl⟩
inductive Ins where
  | gvar (b : Bool) (k j : Int) | gval (b : Bool) (k j : Int) | pval (b : Bool) (k j : Int) | pvar (b : Bool) (k j : Int)
  | gcon (j : Int) | pcon (j : Int) | alloc (n : Int) | call (i n : Int) | exec (i : Int) | blt (i : Int)
  | lev (b : Bool) (k : Int) | cut (b : Bool) (k : Int) | dea | pro | neck | fail
def InsOk : Ins → Prop
  | .gvar b k j | .gval b k j | .pval b k j | .pvar b k j => RgOk b k ∧ RgOk true j
  | .gcon j | .pcon j => RgOk true j
  | .alloc n => 0 ≤ n ∧ n < 3
  | .call i n => (0 ≤ i ∧ i < 3) ∧ 0 ≤ n ∧ n < 3
  | .exec i | .blt i => 0 ≤ i ∧ i < 3
  | .lev b k | .cut b k => RgOk b k
  | _ => True
def IsIns (fs : Int → Int) (h : Heap) (r : Addr) : Ins → Prop
  | .gvar b k j => ∃ t a c, h.get? r = some (tupO [.str (Str.ofString "get_variable") t, .ref a, .ref c]) ∧ IsRg h a b k ∧ IsRg h c true j
  | .gval b k j => ∃ t a c, h.get? r = some (tupO [.str (Str.ofString "get_value") t, .ref a, .ref c]) ∧ IsRg h a b k ∧ IsRg h c true j
  | .pval b k j => ∃ t a c, h.get? r = some (tupO [.str (Str.ofString "put_value") t, .ref a, .ref c]) ∧ IsRg h a b k ∧ IsRg h c true j
  | .pvar b k j => ∃ t a c, h.get? r = some (tupO [.str (Str.ofString "put_variable") t, .ref a, .ref c]) ∧ IsRg h a b k ∧ IsRg h c true j
  | .gcon j => ∃ t a c t₁ t₂, h.get? r = some (tupO [.str (Str.ofString "get_constant") t, .ref a, .ref c]) ∧ h.get? a = some (tupO [.int 5 t₁, .int 7 t₂]) ∧ IsRg h c true j
  | .pcon j => ∃ t a c t₁ t₂, h.get? r = some (tupO [.str (Str.ofString "put_constant") t, .ref a, .ref c]) ∧ h.get? a = some (tupO [.int 5 t₁, .int 7 t₂]) ∧ IsRg h c true j
  | .alloc n => ∃ t t', h.get? r = some (tupO [.str (Str.ofString "allocate") t, .int n t'])
  | .call i n => ∃ t t' t'', h.get? r = some (tupO [.str (Str.ofString "call") t, .int (fs i) t', .int n t''])
  | .exec i => ∃ t t', h.get? r = some (tupO [.str (Str.ofString "execute") t, .int (fs i) t'])
  | .blt i => ∃ t t', h.get? r = some (tupO [.str (Str.ofString "builtin") t, .int (fs i) t'])
  | .lev b k => ∃ t a, h.get? r = some (tupO [.str (Str.ofString "get_level") t, .ref a]) ∧ IsRg h a b k
  | .cut b k => ∃ t a, h.get? r = some (tupO [.str (Str.ofString "cut_to") t, .ref a]) ∧ IsRg h a b k
  | .dea => ∃ t, h.get? r = some (tupO [.str (Str.ofString "deallocate") t])
  | .pro => ∃ t, h.get? r = some (tupO [.str (Str.ofString "proceed") t])
  | .neck => ∃ t, h.get? r = some (tupO [.str (Str.ofString "neck_cut") t])
  | .fail => ∃ t, h.get? r = some (tupO [.str (Str.ofString "fail") t])
def wordOf : Ins → Str
  | .gvar .. => Str.ofString "get_variable"
  | .gval .. => Str.ofString "get_value"
  | .pval .. => Str.ofString "put_value"
  | .pvar .. => Str.ofString "put_variable"
  | .gcon .. => Str.ofString "get_constant"
  | .pcon .. => Str.ofString "put_constant"
  | .alloc .. => Str.ofString "allocate"
  | .call .. => Str.ofString "call"
  | .exec .. => Str.ofString "execute"
  | .blt .. => Str.ofString "builtin"
  | .lev .. => Str.ofString "get_level"
  | .cut .. => Str.ofString "cut_to"
  | .dea => Str.ofString "deallocate"
  | .pro => Str.ofString "proceed"
  | .neck => Str.ofString "neck_cut"
  | .fail => Str.ofString "fail"
/-- an instruction's tuple, the tuples within it, and that it looks at nothing else -/
def InsObjs (fs : Int → Int) (h : Heap) (r : Addr) (i : Ins) : Prop :=
  ∃ t ops tl, h.get? r = some (tupO (.str (wordOf i) t :: ops)) ∧ (∀ q ∈ (tl : List (Addr × Obj)), Value.ref q.1 ∈ ops ∧ h.get? q.1 = some q.2 ∧ ∃ l, q.2 = tupO l) ∧ ∀ H : Heap, H.get? r = some (tupO (.str (wordOf i) t :: ops)) → (∀ q ∈ tl, H.get? q.1 = some q.2) → IsIns fs H r i
section
variable {fs : Int → Int} {h : Heap} {r a c : Addr} {i : Ins} {t : Tok} {ops l l' : List Value}
theorem objs0 (e : h.get? r = some (tupO (.str (wordOf i) t :: ops))) (k : ∀ H : Heap, H.get? r = some (tupO (.str (wordOf i) t :: ops)) → IsIns fs H r i) : InsObjs fs h r i :=
  ⟨t, ops, [], e, fun _ q => (nomatch q), fun H e _ => k H e⟩
theorem objs1 (e : h.get? r = some (tupO [.str (wordOf i) t, .ref a])) (x : h.get? a = some (tupO l)) (k : ∀ H : Heap, H.get? r = some (tupO [.str (wordOf i) t, .ref a]) → H.get? a = some (tupO l) → IsIns fs H r i) : InsObjs fs h r i :=
  ⟨t, _, [(a, tupO l)], e, fun _ q => by cases List.mem_singleton.mp q; exact ⟨.head _, x, _, rfl⟩, fun H e b => k H e (b _ (.head _))⟩
theorem objs2 (e : h.get? r = some (tupO [.str (wordOf i) t, .ref a, .ref c])) (x : h.get? a = some (tupO l)) (y : h.get? c = some (tupO l')) (k : ∀ H : Heap, H.get? r = some (tupO [.str (wordOf i) t, .ref a, .ref c]) → H.get? a = some (tupO l) → H.get? c = some (tupO l') → IsIns fs H r i) : InsObjs fs h r i :=
  ⟨t, _, [(a, tupO l), (c, tupO l')], e, fun _ q => by
    rcases List.mem_cons.mp q with rfl | q
    · exact ⟨.head _, x, _, rfl⟩
    · cases List.mem_singleton.mp q; exact ⟨.tail _ (.head _), y, _, rfl⟩, fun H e b => k H e (b _ (.head _)) (b _ (.tail _ (.head _)))⟩
theorem objsRR {b d : Bool} {k j : Int} (e : h.get? r = some (tupO [.str (wordOf i) t, .ref a, .ref c])) (x : IsRg h a b k) (y : IsRg h c d j) (z : ∀ H : Heap, H.get? r = some (tupO [.str (wordOf i) t, .ref a, .ref c]) → IsRg H a b k → IsRg H c d j → IsIns fs H r i) : InsObjs fs h r i := by
  obtain ⟨_, _, x⟩ := x
  obtain ⟨_, _, y⟩ := y
  exact objs2 e x y fun H e x y => z H e ⟨_, _, x⟩ ⟨_, _, y⟩
theorem objsCR {d : Bool} {j : Int} (e : h.get? r = some (tupO [.str (wordOf i) t, .ref a, .ref c])) (x : h.get? a = some (tupO l)) (y : IsRg h c d j) (z : ∀ H : Heap, H.get? r = some (tupO [.str (wordOf i) t, .ref a, .ref c]) → H.get? a = some (tupO l) → IsRg H c d j → IsIns fs H r i) : InsObjs fs h r i := by
  obtain ⟨_, _, y⟩ := y
  exact objs2 e x y fun H e x y => z H e x ⟨_, _, y⟩
theorem objsR {d : Bool} {j : Int} (e : h.get? r = some (tupO [.str (wordOf i) t, .ref a])) (y : IsRg h a d j) (z : ∀ H : Heap, H.get? r = some (tupO [.str (wordOf i) t, .ref a]) → IsRg H a d j → IsIns fs H r i) : InsObjs fs h r i := by
  obtain ⟨_, _, y⟩ := y
  exact objs1 e y fun H e y => z H e ⟨_, _, y⟩
end
theorem IsIns.objs {fs : Int → Int} {h : Heap} {r : Addr} {i : Ins} (x : IsIns fs h r i) : InsObjs fs h r i := by
  cases i with
  | gvar | gval | pval | pvar => obtain ⟨t, a, c, e, x, y⟩ := x; exact objsRR e x y fun _ e x y => ⟨t, a, c, e, x, y⟩
  | gcon | pcon => obtain ⟨t, a, c, t₁, t₂, e, x, y⟩ := x; exact objsCR e x y fun _ e x y => ⟨t, a, c, t₁, t₂, e, x, y⟩
  | alloc | exec | blt => obtain ⟨t, t', e⟩ := x; exact objs0 e fun _ e => ⟨t, t', e⟩
  | call => obtain ⟨t, t', t'', e⟩ := x; exact objs0 e fun _ e => ⟨t, t', t'', e⟩
  | lev | cut => obtain ⟨t, a, e, x⟩ := x; exact objsR e x fun _ e x => ⟨t, a, e, x⟩
  | dea | pro | neck | fail => obtain ⟨t, e⟩ := x; exact objs0 e fun _ e => ⟨t, e⟩
theorem IsIns.keep {fs : Int → Int} {h h' : Heap} {as : List Addr} {r : Addr} (hK : Keeps as h h') (n : NT h as) {i : Ins} (x : IsIns fs h r i) : IsIns fs h' r i := by
  have K : ∀ {a : Addr} {l : List Value}, h.get? a = some (tupO l) → h'.get? a = some (tupO l) := fun e => hK _ _ e fun q => n _ q _ e rfl
  obtain ⟨t, ops, tl, e, h1, h2⟩ := x.objs
  refine h2 h' (K e) fun q hq => ?_
  obtain ⟨_, e, l, q2⟩ := h1 q hq
  rw [q2] at e ⊢
  exact K e
variable {w : World} {A A₀ : Around} {base g : Heap} {outer : List Env} {env : Env} {s : Shared} {p : Program} {loose : List Str} {mean : ExcName → Option Value} {mg mb : Str → Option Value}
  {R : Result → Shared → Prop} {Q E : Value → Shared → Prop} {L : Addr} {m : Str → Option Value} {news : List (Addr × Obj)}
theorem getLast_mem : ∀ {ns : List Int}, 0 < ns.length → ns.getLastD 0 ∈ ns
  | [], h => absurd h (Nat.lt_irrefl 0)
  | [a], _ => by simp
  | a :: b :: r, _ => by
    have := getLast_mem (ns := b :: r) (Nat.succ_pos _)
    exact List.mem_cons_of_mem _ (by simpa using this)
theorem choose_spec {q : Addr} {o : Obj} {many : Int} {tk : Tok}
    (D : Rdy A base outer s.heap [(q, o)]) (C : Wd w base p loose mean mg mb)
    (ho : QOk o) (hm : 0 < many) (hm' : many < 1000) (hd : A.depth ≤ 600) (hu : A.units ≤ 2000)
    (k : ∀ r t o' h' tk', 0 ≤ r → r < many → QOk o' → Keeps [q] s.heap h' → h'.get? q = some o' → R (.ok (.ret (.int r t))) { s with heap := h', toks := tk' }) :
    codeAny (MM w) A (.call (.ref 362) ⟨[.ref q, .int many tk], []⟩) R s := by
  obtain ⟨its, n, ns, rfl, hI, hb, hl⟩ := ho
  refine' enter 600 2000 (binds := [(Str.ofString "queue", .ref q), (Str.ofString "many", .int many tk)]) D C.X C.T hd hu ?k6 ?k7 ?k8 ?k9 ?kB ?_ ?c2 ?c3 ?c4 ?c5
  case k6 => k_is
  case k7 => k_is
  case k8 => decide
  case k9 => exact BindsTo.of_eq rfl
  case kB => exact locs rfl
  case c2 => exact rfl
  case c3 => exact rfl
  case c4 => exact rfl
  case c5 => decide
  intro g L h₁ tk eL hg hgs F N l1 B X T env1
  clear D
  k_lt l1
  have hlen := IntsAre.length hI
  k_steps
  · have hN := (News.get (by assumption) (List.mem_cons_self ..))
    refine k _ _ _ _ _ ?_ ?_ ?_ ?_ hN
    · rw [Int.fmod_eq_emod_of_nonneg _ (by omega)]; exact Int.emod_nonneg _ (by omega)
    · rw [Int.fmod_eq_emod_of_nonneg _ (by omega)]; exact Int.emod_lt_of_pos _ hm
    · refine ⟨_, _, _, rfl, by assumption, fun v hv => hb v (List.dropLast_subset _ hv), ?_⟩
      rw [List.length_dropLast]; omega
    · exact fun b o e hn => (Fr.keep (by assumption)) _ _ (hg b o e (by simpa using hn))
  · refine k _ _ _ _ _ (Int.le_refl 0) hm ⟨_, _, _, rfl, hI, hb, hl⟩ ?_ (News.get N (List.mem_cons_self ..))
    exact fun b o e hn => (Fr.keep (by assumption)) _ _ (hg b o e (by simpa using hn))
theorem choose_use {q : Addr} {o : Obj} {many : Int} {tk : Tok} {nf : Obj → List (Addr × Obj)}
    (B : Below A₀ base outer g) (F : Fr g L s.heap m) (N : News g L s.heap news) (C : Wd w base p loose mean mg mb)
    (hh : A.handled = none) (hA : A.frames = some (env :: outer)) (hf : env.frame = some L) (hke : env.scope.kind = .function) (U : ∀ o', Upd q o o' news (nf o'))
    (ho : QOk o) (hm : 0 < many) (hm' : many < 1000) (hd : A.depth ≤ 600) (hu : A.units ≤ 2000)
    (k : ∀ r t o' h' tk', 0 ≤ r → r < many → QOk o' → Fr g L h' m → News g L h' (nf o') → Q (.int r t) { s with heap := h', toks := tk' }) :
    wpAny (MM w) A (call (.ref 362) [.ref q, .int many tk]) Q E s := by
  have N1 : News g L s.heap [(q, o)] := newsSub N (by simpa using updMem (U o))
  refine wpAny_call (choose_spec (Rdy.nest B F N1 hh hA hf hke) C ho hm hm' hd hu fun r t o' h' tk' h1 h2 h3 hK hq => ?_)
  exact k r t o' h' tk' h1 h2 h3 (frAfter F N1 hK) (newsAfter1 N (U o') hK hq)
end
section
variable {w : World} {A A₀ : Around} {base g : Heap} {outer : List Env} {env : Env} {s : Shared} {p : Program} {loose : List Str} {mean : ExcName → Option Value} {mg mb : Str → Option Value}
  {R : Result → Shared → Prop} {Q E : Value → Shared → Prop} {L : Addr} {m : Str → Option Value} {news : List (Addr × Obj)}
theorem lawx_spec {q : Addr} {o : Obj} (D : Rdy A base outer s.heap [(q, o)]) (C : Wd w base p loose mean mg mb) (ho : QOk o) (hd : A.depth ≤ 590) (hu : A.units ≤ 1900)
    (k : ∀ r j o' h' tk', RgOk true j → QOk o' → Keeps [q] s.heap h' → h'.get? q = some o' → IsRg h' r true j → s.heap.get? r = none → R (.ok (.ret (.ref r))) { s with heap := h', toks := tk' }) :
    codeAny (MM w) A (.call (.ref 376) ⟨[.ref q], []⟩) R s := by
  refine' enter 590 1900 (binds := [(Str.ofString "queue", .ref q)]) D C.X C.T hd hu ?k6 ?k7 ?k8 ?k9 ?kB ?_ ?c2 ?c3 ?c4 ?c5
  walk_at "my enter"
  intro g L h₁ tk eL hg hgs F N l1 B X T env1
  clear D
  k_lt l1
  (repeat' (walk_at "my step"))
  refine choose_use B F N C rfl rfl rfl rfl (by intro _; k_upd) ho (by omega) (by omega) (Nat.le_of_ble_eq_true rfl) (Nat.le_of_ble_eq_true rfl) ?_
  intro r t o' h' tk' r0 r1 ho' F N
  try dsimp only at N
  (repeat' (walk_at "my step"))
  rename_i D h' F N l1
  refine k _ (1 + r) o' _ _ ⟨by omega, by omega, fun e => nomatch e⟩ ho' (keepsOf hg F) (N.get (.tail _ (.head _))) ⟨_, _, N.get (.head _)⟩ (freshOf hg (N.fresh (.head _)) (nm1 (by dsimp only; omega)))
theorem lawany_spec {q : Addr} {o : Obj} (D : Rdy A base outer s.heap [(q, o)]) (C : Wd w base p loose mean mg mb) (ho : QOk o) (hd : A.depth ≤ 590) (hu : A.units ≤ 1900)
    (k : ∀ r b j o' h' tk', RgOk b j → QOk o' → Keeps [q] s.heap h' → h'.get? q = some o' → IsRg h' r b j → s.heap.get? r = none → R (.ok (.ret (.ref r))) { s with heap := h', toks := tk' }) :
    codeAny (MM w) A (.call (.ref 369) ⟨[.ref q], []⟩) R s := by
  refine' enter 590 1900 (binds := [(Str.ofString "queue", .ref q)]) D C.X C.T hd hu ?k6 ?k7 ?k8 ?k9 ?kB ?_ ?c2 ?c3 ?c4 ?c5
  walk_at "my enter"
  intro g L h₁ tk eL hg hgs F N l1 B X T env1
  clear D
  k_lt l1
  (repeat' (walk_at "my step"))
  ((refine choose_use (by assumption) (by assumption) (by assumption) (by assumption) rfl rfl rfl rfl (by intro _; k_upd) (by assumption) (by omega) (by omega) (Nat.le_of_ble_eq_true rfl) (Nat.le_of_ble_eq_true rfl) ?_; intro r'_m t'_m o'_m h'_m tk'_m r0'_m r1'_m ho'_m F'_m N'_m; (try dsimp only at N'_m); (try k_sweep)))
  (repeat' (walk_at "my step"))
  · exact k _ true 1 _ _ _ ⟨by decide, by decide, by decide⟩ (by assumption) (keepsOf hg (by assumption)) (News.get (by assumption) (by k_mem)) ⟨_, _, News.get (by assumption) (by k_mem)⟩ (freshOf hg (News.fresh (o := tupO [.str _ _, .int _ _]) (by assumption) (by k_mem)) (nm1 (by dsimp only; omega)))
  · exact k _ true 2 _ _ _ ⟨by decide, by decide, by decide⟩ (by assumption) (keepsOf hg (by assumption)) (News.get (by assumption) (by k_mem)) ⟨_, _, News.get (by assumption) (by k_mem)⟩ (freshOf hg (News.fresh (o := tupO [.str _ _, .int _ _]) (by assumption) (by k_mem)) (nm1 (by dsimp only; omega)))
  · exact k _ true 3 _ _ _ ⟨by decide, by decide, by decide⟩ (by assumption) (keepsOf hg (by assumption)) (News.get (by assumption) (by k_mem)) ⟨_, _, News.get (by assumption) (by k_mem)⟩ (freshOf hg (News.fresh (o := tupO [.str _ _, .int _ _]) (by assumption) (by k_mem)) (nm1 (by dsimp only; omega)))
  · exact k _ false 1 _ _ _ ⟨by decide, by decide, by decide⟩ (by assumption) (keepsOf hg (by assumption)) (News.get (by assumption) (by k_mem)) ⟨_, _, News.get (by assumption) (by k_mem)⟩ (freshOf hg (News.fresh (o := tupO [.str _ _, .int _ _]) (by assumption) (by k_mem)) (nm1 (by dsimp only; omega)))
  · exact k _ false 2 _ _ _ ⟨by decide, by decide, by decide⟩ (by assumption) (keepsOf hg (by assumption)) (News.get (by assumption) (by k_mem)) ⟨_, _, News.get (by assumption) (by k_mem)⟩ (freshOf hg (News.fresh (o := tupO [.str _ _, .int _ _]) (by assumption) (by k_mem)) (nm1 (by dsimp only; omega)))
theorem lawx_use {q : Addr} {o : Obj} {nf : Obj → List (Addr × Obj)}
    (B : Below A₀ base outer g) (F : Fr g L s.heap m) (N : News g L s.heap news) (C : Wd w base p loose mean mg mb)
    (hh : A.handled = none) (hA : A.frames = some (env :: outer)) (hf : env.frame = some L) (hke : env.scope.kind = .function) (U : ∀ o', Upd q o o' news (nf o'))
    (ho : QOk o) (hd : A.depth ≤ 590) (hu : A.units ≤ 1900)
    (k : ∀ r j t t' o' h' tk', RgOk true j → QOk o' → Fr g L h' m → News g L h' ((r, tupO [.str (rn true) t, .int j t']) :: nf o') → (∀ p ∈ news, p.1 ≠ r) → Q (.ref r) { s with heap := h', toks := tk' }) :
    wpAny (MM w) A (call (.ref 376) [.ref q]) Q E s := by
  have N1 : News g L s.heap [(q, o)] := newsSub N (by simpa using updMem (U o))
  refine wpAny_call (lawx_spec (Rdy.nest B F N1 hh hA hf hke) C ho hd hu fun r j o' h' tk' h1 h2 hK hq hr hn => ?_)
  obtain ⟨t, t', hr⟩ := hr
  exact k r j t t' o' h' tk' h1 h2 (frAfter F N1 hK) (newsCons (newsAfter1 N (U o') hK hq) hr (newNe F hn) (newNone F hn)) fun p hp e => by have := (N p hp).1; rw [e, hn] at this; cases this
theorem lawany_use {q : Addr} {o : Obj} {nf : Obj → List (Addr × Obj)}
    (B : Below A₀ base outer g) (F : Fr g L s.heap m) (N : News g L s.heap news) (C : Wd w base p loose mean mg mb)
    (hh : A.handled = none) (hA : A.frames = some (env :: outer)) (hf : env.frame = some L) (hke : env.scope.kind = .function) (U : ∀ o', Upd q o o' news (nf o'))
    (ho : QOk o) (hd : A.depth ≤ 590) (hu : A.units ≤ 1900)
    (k : ∀ r b j t t' o' h' tk', RgOk b j → QOk o' → Fr g L h' m → News g L h' ((r, tupO [.str (rn b) t, .int j t']) :: nf o') → (∀ p ∈ news, p.1 ≠ r) → Q (.ref r) { s with heap := h', toks := tk' }) :
    wpAny (MM w) A (call (.ref 369) [.ref q]) Q E s := by
  have N1 : News g L s.heap [(q, o)] := newsSub N (by simpa using updMem (U o))
  refine wpAny_call (lawany_spec (Rdy.nest B F N1 hh hA hf hke) C ho hd hu fun r b j o' h' tk' h1 h2 hK hq hr hn => ?_)
  obtain ⟨t, t', hr⟩ := hr
  exact k r b j t t' o' h' tk' h1 h2 (frAfter F N1 hK) (newsCons (newsAfter1 N (U o') hK hq) hr (newNe F hn) (newNone F hn)) fun p hp e => by have := (N p hp).1; rw [e, hn] at this; cases this
end
section
variable {w : World} {A A₀ : Around} {base g : Heap} {outer : List Env} {env : Env} {s : Shared} {p : Program} {loose : List Str} {mean : ExcName → Option Value} {mg mb : Str → Option Value}
  {R : Result → Shared → Prop} {Q E : Value → Shared → Prop} {L : Addr} {m : Str → Option Value} {news : List (Addr × Obj)}
theorem fs_get {fs : Int → Int} {i : Int} (h0 : 0 ≤ i) (h1 : i < 3) : [fs 0, fs 1, fs 2].getD i.toNat 0 = fs i := by
  have : i = 0 ∨ i = 1 ∨ i = 2 := by omega
  rcases this with rfl | rfl | rfl <;> rfl
theorem tup_list {l1 l2 : List Value} (e : some (tupO l1) = some (tupO l2)) : l2 = l1 := by
  simp only [Option.some.injEq, Obj.mk.injEq, Data.seq.injEq, Array.mk.injEq, and_true, true_and] at e
  exact e.symm
/-- the word of a row with a register and an x register, and the row that it makes -/
def Mk2 (fs : Int → Int) (wd : Str) : Prop := ∃ mk : Bool → Int → Int → Ins, (∀ h r b k j t a c, h.get? r = some (tupO [.str wd t, .ref a, .ref c]) → IsRg h a b k → IsRg h c true j → IsIns fs h r (mk b k j)) ∧ (∀ b k j, RgOk b k → RgOk true j → InsOk (mk b k j))
def Mk0 (fs : Int → Int) (wd : Str) : Prop := ∃ i : Ins, (∀ h r t, h.get? r = some (tupO [.str wd t]) → IsIns fs h r i) ∧ InsOk i
theorem kind4 {fs : Int → Int} {vs : List Value} {r : Int} (_ : IntsAre vs [fs 0, fs 1, fs 2]) (h : ([0, 1, 3, 4].any fun x => x == r) = true) {u0 u1 u3 u4 t0 t1 t3 t4 : Tok} :
    ∃ wd tw, valueAt (intKeyPairs [(.int 0 u0, .str (Str.ofString "get_variable") t0), (.int 1 u1, .str (Str.ofString "get_value") t1), (.int 3 u3, .str (Str.ofString "put_value") t3), (.int 4 u4, .str (Str.ofString "put_variable") t4)]) r = some (.str wd tw) ∧ Mk2 fs wd := by
  obtain ⟨x, hr, e⟩ := List.any_eq_true.mp h
  obtain rfl := beq_iff_eq.mp e
  simp only [List.mem_cons, List.not_mem_nil, or_false] at hr
  rcases hr with rfl | rfl | rfl | rfl
  · exact ⟨_, _, rfl, .gvar, fun _ _ _ _ _ _ _ _ e x y => ⟨_, _, _, e, x, y⟩, fun _ _ _ x y => ⟨x, y⟩⟩
  · exact ⟨_, _, rfl, .gval, fun _ _ _ _ _ _ _ _ e x y => ⟨_, _, _, e, x, y⟩, fun _ _ _ x y => ⟨x, y⟩⟩
  · exact ⟨_, _, rfl, .pval, fun _ _ _ _ _ _ _ _ e x y => ⟨_, _, _, e, x, y⟩, fun _ _ _ x y => ⟨x, y⟩⟩
  · exact ⟨_, _, rfl, .pvar, fun _ _ _ _ _ _ _ _ e x y => ⟨_, _, _, e, x, y⟩, fun _ _ _ x y => ⟨x, y⟩⟩
theorem kind1 {fs : Int → Int} {vs : List Value} {r : Int} (_ : IntsAre vs [fs 0, fs 1, fs 2]) (h0 : 0 ≤ r) (h1 : r < 15) (h : ([0, 1, 3, 4].any fun x => x == r) = false) (h2 : ¬ r = 2) (h5 : ¬ r = 5) (h6 : ¬ r = 6) (h8 : ¬ r = 8) (h9 : ¬ r = 9) (h11 : ¬ r = 11) (h14 : ¬ r = 14) {u0 u1 u3 u4 t0 t1 t3 t4 : Tok} :
    ∃ wd tw, valueAt (intKeyPairs [(.int 7 u0, .str (Str.ofString "deallocate") t0), (.int 10 u1, .str (Str.ofString "proceed") t1), (.int 12 u3, .str (Str.ofString "neck_cut") t3), (.int 13 u4, .str (Str.ofString "fail") t4)]) r = some (.str wd tw) ∧ Mk0 fs wd := by
  have key : ∀ n : Fin 15, ([0, 1, 3, 4].any fun x => x == (n : Int)) = true ∨ (n : Int) ∈ [2, 5, 6, 8, 9, 11, 14] ∨ (n : Int) = 7 ∨ (n : Int) = 10 ∨ (n : Int) = 12 ∨ (n : Int) = 13 := by decide +kernel
  obtain ⟨n, rfl⟩ := Int.eq_ofNat_of_zero_le h0
  have hr : (n : Int) = 7 ∨ (n : Int) = 10 ∨ (n : Int) = 12 ∨ (n : Int) = 13 := by
    rcases key ⟨n, Int.ofNat_lt.mp h1⟩ with e | e | e
    · exact absurd (h.symm.trans e) Bool.false_ne_true
    · simp [h2, h5, h6, h8, h9, h11, h14] at e
    · exact e
  rcases hr with hr | hr | hr | hr <;> rw [hr]
  · exact ⟨_, _, rfl, .dea, fun _ _ _ e => ⟨_, e⟩, trivial⟩
  · exact ⟨_, _, rfl, .pro, fun _ _ _ e => ⟨_, e⟩, trivial⟩
  · exact ⟨_, _, rfl, .neck, fun _ _ _ e => ⟨_, e⟩, trivial⟩
  · exact ⟨_, _, rfl, .fail, fun _ _ _ e => ⟨_, e⟩, trivial⟩
theorem eqT {prog : Program} {w : World} {A : Around} {s : Shared} {a b : Int} {t u : Tok} {Q : Value → Shared → Prop} {E : Value → Shared → Prop} (e : a = b) (h : Q (.bool true) s) : wpAny (model prog w) A (compareOp .Eq (.int a t) (.int b u)) Q E s := eq_int (by rw [beq_iff_eq.mpr e]; exact h)
theorem eqF {prog : Program} {w : World} {A : Around} {s : Shared} {a b : Int} {t u : Tok} {Q : Value → Shared → Prop} {E : Value → Shared → Prop} (e : ¬ a = b) (h : Q (.bool false) s) : wpAny (model prog w) A (compareOp .Eq (.int a t) (.int b u)) Q E s := eq_int (by rw [beq_false_of_ne e]; exact h)
theorem eqS {prog : Program} {w : World} {A : Around} {s : Shared} {a b : Int} {t u : Tok} {Q : Value → Shared → Prop} {E : Value → Shared → Prop} (h1 : a = b → Q (.bool true) s) (h2 : ¬ a = b → Q (.bool false) s) : wpAny (model prog w) A (compareOp .Eq (.int a t) (.int b u)) Q E s := by
  by_cases e : a = b
  · exact eqT e (h1 e)
  · exact eqF e (h2 e)
theorem kda_itemE {prog : Program} {w : World} {A : Around} {s : Shared} {d : Addr} {o : Obj} {kvs : List (Int × Value)} {k : Int} {u : Tok} {P : Str → Prop} {Q : Value → Shared → Prop} {E : Value → Shared → Prop} (N : News g L s.heap news) (hp : (d, o) ∈ news) (hd : o.IsDictOf (intKind prog w) kvs) (hl : ∃ wd tw, valueAt kvs k = some (.str wd tw) ∧ P wd)
    (h : ∀ wd tw tk', P wd → Q (.str wd tw) { s with toks := tk' })
    : wpAny (model prog w) A (getItem (.ref d) (.int k u)) Q E s := by
  obtain ⟨wd, tw, e, p⟩ := hl
  exact wpAny_getItem_of (intKind_is _ _ _ _) (kda_dict N hp hd).mapOf e (h wd tw _ p)
def OpsN (q : Addr) (news : List (Addr × Obj)) (ops : List Value) : Prop := ∀ a, Value.ref a ∈ ops → ∃ o, (a, o) ∈ news ∧ @Ne Nat q a
theorem opsN2 {q a c : Addr} {oa oc : Obj} (h1 : (a, oa) ∈ news) (n1 : @Ne Nat q a) (h2 : (c, oc) ∈ news) (n2 : @Ne Nat q c) : OpsN q news [.ref a, .ref c] := fun x hx => by
  simp only [List.mem_cons, List.not_mem_nil, or_false, Value.ref.injEq] at hx
  rcases hx with rfl | rfl
  · exact ⟨_, h1, n1⟩
  · exact ⟨_, h2, n2⟩
theorem opsN1 {q a : Addr} {oa : Obj} (h1 : (a, oa) ∈ news) (n1 : @Ne Nat q a) : OpsN q news [.ref a] := fun x hx => by
  simp only [List.mem_cons, List.not_mem_nil, or_false, Value.ref.injEq] at hx
  subst hx; exact ⟨_, h1, n1⟩
theorem opsNI {q : Addr} {i : Int} {t : Tok} : OpsN q news [.int i t] := fun x hx => by simp at hx
theorem opsNII {q : Addr} {i j : Int} {t u : Tok} : OpsN q news [.int i t, .int j u] := fun x hx => by simp at hx
theorem opsN0 {q : Addr} : OpsN q news [] := fun x hx => nomatch hx
end
local macro_rules | `(tactic| walk_at "compareOp Eq int int") => `(tactic| first | (refine eqT (by decide) ?_; try dsimp only) | (refine eqF (by first | assumption | decide | omega) ?_; try dsimp only) | (refine eqS ?_ ?_ <;> (intro hq'; (try subst hq'); (try dsimp only))))
section
variable {w : World} {A A₀ : Around} {base g : Heap} {outer : List Env} {env : Env} {s : Shared} {p : Program} {loose : List Str} {mean : ExcName → Option Value} {mg mb : Str → Option Value}
  {R : Result → Shared → Prop} {Q E : Value → Shared → Prop} {L : Addr} {m : Str → Option Value} {news : List (Addr × Obj)}
section
theorem lawins_spec {q fl : Addr} {o : Obj} {fs : Int → Int} {vs : List Value} (D : Rdy A base outer s.heap [(q, o)]) (C : Wd w base p loose mean mg mb) (ho : QOk o) (hd : A.depth ≤ 580) (hu : A.units ≤ 1800)
    (hfl : s.heap.IsList fl vs.toArray) (hfq : fl ≠ q) (hfi : IntsAre vs [fs 0, fs 1, fs 2])
    (k : ∀ r i o' h' tk', InsOk i → QOk o' → Keeps [q] s.heap h' → h'.get? q = some o' → IsIns fs h' r i → s.heap.get? r = none → (∀ l, h'.get? r = some (tupO l) → ∀ a, Value.ref a ∈ l → s.heap.get? a = none) → R (.ok (.ret (.ref r))) { s with heap := h', toks := tk' }) :
    codeAny (MM w) A (.call (.ref 383) ⟨[.ref q, .ref fl], []⟩) R s := by
  refine' enter 580 1800 (binds := [(Str.ofString "queue", .ref q), (Str.ofString "functors", .ref fl)]) D C.X C.T hd hu ?k6 ?k7 ?k8 ?k9 ?kB ?_ ?c2 ?c3 ?c4 ?c5
  walk_at "my enter"
  intro g L h₁ tk eL hg hgs F N l1 B X T env1
  clear D
  k_lt l1
  have hfl : g.IsList fl vs.toArray := by
    obtain ⟨o₁, e, r⟩ := hfl
    exact ⟨o₁, hg _ _ e (nm1 (by dsimp only; exact Ne.symm hfq)), r⟩
  (repeat' (walk_at "my step"))
  refine choose_use B F N C rfl rfl rfl rfl (by intro _; k_upd) ho (by omega) (by omega) (Nat.le_of_ble_eq_true rfl) (Nat.le_of_ble_eq_true rfl) ?_
  intro r t o' h' tk' r0 r1 ho' F N
  (try dsimp only at N)
  k_sweep
  have fin : ∀ ra wd tw ops i o' h' tk' news' m', Fr g L h' m' → News g L h' news' → (ra, tupO (.str wd tw :: ops)) ∈ news' → (q, o') ∈ news' → @Ne Nat q ra → OpsN q news' ops → QOk o' → IsIns fs h' ra i → InsOk i → R (.ok (.ret (.ref ra))) { s with heap := h', toks := tk' } := by
    intro ra wd tw ops i o' h' tk' news' m' F' N' m1 m2 hne hops ho1 hi hok
    have fr : ∀ {a : Addr} {o : Obj}, (a, o) ∈ news' → @Ne Nat q a → s.heap.get? a = none := fun hm hn => freshOf hg (N'.fresh hm) (nm1 hn)
    refine k ra i o' h' tk' hok ho1 (keepsOf hg F') (N'.get m2) hi (fr m1 hne) ?_
    intro l e a ha
    have e1 := tup_list ((N'.get m1).symm.trans e)
    subst e1
    rcases List.mem_cons.mp ha with ha | ha
    · cases ha
    · obtain ⟨o2, h2, h3⟩ := hops a ha
      exact fr h2 h3
  (repeat' (walk_at "my step"))
  · ((refine lawany_use (by assumption) (by assumption) (by assumption) (by assumption) rfl rfl rfl rfl (by intro _; k_upd) (by assumption) (Nat.le_of_ble_eq_true rfl) (Nat.le_of_ble_eq_true rfl) ?_; intro r'_m b'_m j'_m t'_m u'_m o'_m h'_m tk'_m rk'_m ho'_m F'_m N'_m rn'_m; (try dsimp only at N'_m); replace rn'_m := allNe_of rn'_m; (try dsimp only [AllNe] at rn'_m); (try k_sweep)))
    repeat' (first | ((fail_if_success (with_reducible show wpAny _ _ (getItem (Value.ref _) (Value.int _ _)) _ _ _)); walk_at "my step"))
    refine kda_itemE (by assumption) (by k_mem) (by assumption) (kind4 hfi (by assumption)) ?_
    intro wd tw tk' hwd
    dsimp only
    (repeat' (walk_at "my step"))
    obtain ⟨mk, hm1, hm2⟩ := (by assumption : Mk2 fs _)
    ((refine lawx_use (by assumption) (by assumption) (by assumption) (by assumption) rfl rfl rfl rfl (by intro _; k_upd) (by assumption) (Nat.le_of_ble_eq_true rfl) (Nat.le_of_ble_eq_true rfl) ?_; intro r'_m j'_m t'_m u'_m o'_m h'_m tk'_m rk'_m ho'_m F'_m N'_m rn'_m; (try dsimp only at N'_m); replace rn'_m := allNe_of rn'_m; (try dsimp only [AllNe] at rn'_m); (try k_sweep)))
    (repeat' (walk_at "my step"))
    exact fin _ _ _ _ (mk _ _ _) _ _ _ _ _ (by assumption) (by assumption) (.head _) (by k_mem) (by omega) (opsN2 (by k_mem) (by omega) (by k_mem) (by omega)) (by assumption) (hm1 _ _ _ _ _ _ _ _ (News.get (by assumption) (.head _)) ⟨_, _, News.get (by assumption) (by k_mem)⟩ ⟨_, _, News.get (by assumption) (by k_mem)⟩) (hm2 _ _ _ (by assumption) (by assumption))
  · ((refine lawx_use (by assumption) (by assumption) (by assumption) (by assumption) rfl rfl rfl rfl (by intro _; k_upd) (by assumption) (Nat.le_of_ble_eq_true rfl) (Nat.le_of_ble_eq_true rfl) ?_; intro r'_m j'_m t'_m u'_m o'_m h'_m tk'_m rk'_m ho'_m F'_m N'_m rn'_m; (try dsimp only at N'_m); replace rn'_m := allNe_of rn'_m; (try dsimp only [AllNe] at rn'_m); (try k_sweep)))
    (repeat' (walk_at "my step"))
    exact fin _ _ _ _ (.gcon _) _ _ _ _ _ (by assumption) (by assumption) (.head _) (by k_mem) (by omega) (opsN2 (by k_mem) (by omega) (by k_mem) (by omega)) (by assumption) ⟨_, _, _, _, _, News.get (by assumption) (.head _), News.get (by assumption) (by k_mem), ⟨_, _, News.get (by assumption) (by k_mem)⟩⟩ (by assumption)
  · ((refine lawx_use (by assumption) (by assumption) (by assumption) (by assumption) rfl rfl rfl rfl (by intro _; k_upd) (by assumption) (Nat.le_of_ble_eq_true rfl) (Nat.le_of_ble_eq_true rfl) ?_; intro r'_m j'_m t'_m u'_m o'_m h'_m tk'_m rk'_m ho'_m F'_m N'_m rn'_m; (try dsimp only at N'_m); replace rn'_m := allNe_of rn'_m; (try dsimp only [AllNe] at rn'_m); (try k_sweep)))
    (repeat' (walk_at "my step"))
    exact fin _ _ _ _ (.pcon _) _ _ _ _ _ (by assumption) (by assumption) (.head _) (by k_mem) (by omega) (opsN2 (by k_mem) (by omega) (by k_mem) (by omega)) (by assumption) ⟨_, _, _, _, _, News.get (by assumption) (.head _), News.get (by assumption) (by k_mem), ⟨_, _, News.get (by assumption) (by k_mem)⟩⟩ (by assumption)
  · ((refine choose_use (by assumption) (by assumption) (by assumption) (by assumption) rfl rfl rfl rfl (by intro _; k_upd) (by assumption) (by omega) (by omega) (Nat.le_of_ble_eq_true rfl) (Nat.le_of_ble_eq_true rfl) ?_; intro r'_m t'_m o'_m h'_m tk'_m r0'_m r1'_m ho'_m F'_m N'_m; (try dsimp only at N'_m); (try k_sweep)))
    (repeat' (walk_at "my step"))
    exact fin _ _ _ _ (.alloc _) _ _ _ _ _ (by assumption) (by assumption) (.head _) (by k_mem) (by omega) opsNI (by assumption) ⟨_, _, News.get (by assumption) (.head _)⟩ ⟨by assumption, by assumption⟩
  · ((refine choose_use (by assumption) (by assumption) (by assumption) (by assumption) rfl rfl rfl rfl (by intro _; k_upd) (by assumption) (by omega) (by omega) (Nat.le_of_ble_eq_true rfl) (Nat.le_of_ble_eq_true rfl) ?_; intro r'_m t'_m o'_m h'_m tk'_m r0'_m r1'_m ho'_m F'_m N'_m; (try dsimp only at N'_m); (try k_sweep)))
    (repeat' (walk_at "my step"))
    ((refine choose_use (by assumption) (by assumption) (by assumption) (by assumption) rfl rfl rfl rfl (by intro _; k_upd) (by assumption) (by omega) (by omega) (Nat.le_of_ble_eq_true rfl) (Nat.le_of_ble_eq_true rfl) ?_; intro r'_m t'_m o'_m h'_m tk'_m r0'_m r1'_m ho'_m F'_m N'_m; (try dsimp only at N'_m); (try k_sweep)))
    (repeat' (walk_at "my step"))
    exact fin _ _ _ _ (.call _ _) _ _ _ _ _ (by assumption) (by assumption) (.head _) (by k_mem) (by omega) opsNII (by assumption) ⟨_, _, _, (News.get (by assumption) (.head _)).trans (by rw [fs_get (by assumption) (by assumption)])⟩ ⟨⟨by assumption, by assumption⟩, by assumption, by assumption⟩
  · ((refine choose_use (by assumption) (by assumption) (by assumption) (by assumption) rfl rfl rfl rfl (by intro _; k_upd) (by assumption) (by omega) (by omega) (Nat.le_of_ble_eq_true rfl) (Nat.le_of_ble_eq_true rfl) ?_; intro r'_m t'_m o'_m h'_m tk'_m r0'_m r1'_m ho'_m F'_m N'_m; (try dsimp only at N'_m); (try k_sweep)))
    (repeat' (walk_at "my step"))
    exact fin _ _ _ _ (.exec _) _ _ _ _ _ (by assumption) (by assumption) (.head _) (by k_mem) (by omega) opsNI (by assumption) ⟨_, _, (News.get (by assumption) (.head _)).trans (by rw [fs_get (by assumption) (by assumption)])⟩ ⟨by assumption, by assumption⟩
  · ((refine choose_use (by assumption) (by assumption) (by assumption) (by assumption) rfl rfl rfl rfl (by intro _; k_upd) (by assumption) (by omega) (by omega) (Nat.le_of_ble_eq_true rfl) (Nat.le_of_ble_eq_true rfl) ?_; intro r'_m t'_m o'_m h'_m tk'_m r0'_m r1'_m ho'_m F'_m N'_m; (try dsimp only at N'_m); (try k_sweep)))
    (repeat' (walk_at "my step"))
    exact fin _ _ _ _ (.blt _) _ _ _ _ _ (by assumption) (by assumption) (.head _) (by k_mem) (by omega) opsNI (by assumption) ⟨_, _, (News.get (by assumption) (.head _)).trans (by rw [fs_get (by assumption) (by assumption)])⟩ ⟨by assumption, by assumption⟩
  · ((refine choose_use (by assumption) (by assumption) (by assumption) (by assumption) rfl rfl rfl rfl (by intro _; k_upd) (by assumption) (by omega) (by omega) (Nat.le_of_ble_eq_true rfl) (Nat.le_of_ble_eq_true rfl) ?_; intro r'_m t'_m o'_m h'_m tk'_m r0'_m r1'_m ho'_m F'_m N'_m; (try dsimp only at N'_m); (try k_sweep)))
    (repeat' (walk_at "my step"))
    all_goals
      ((refine lawany_use (by assumption) (by assumption) (by assumption) (by assumption) rfl rfl rfl rfl (by intro _; k_upd) (by assumption) (Nat.le_of_ble_eq_true rfl) (Nat.le_of_ble_eq_true rfl) ?_; intro r'_m b'_m j'_m t'_m u'_m o'_m h'_m tk'_m rk'_m ho'_m F'_m N'_m rn'_m; (try dsimp only at N'_m); replace rn'_m := allNe_of rn'_m; (try dsimp only [AllNe] at rn'_m); (try k_sweep)))
      (repeat' (walk_at "my step"))
      first
      | exact fin _ (Str.ofString "get_level") _ _ (.lev _ _) _ _ _ _ _ (by assumption) (by assumption) (.head _) (by k_mem) (by omega) (opsN1 (by k_mem) (by omega)) (by assumption) ⟨_, _, News.get (by assumption) (.head _), ⟨_, _, News.get (by assumption) (by k_mem)⟩⟩ (by assumption)
      | exact fin _ (Str.ofString "cut_to") _ _ (.cut _ _) _ _ _ _ _ (by assumption) (by assumption) (.head _) (by k_mem) (by omega) (opsN1 (by k_mem) (by omega)) (by assumption) ⟨_, _, News.get (by assumption) (.head _), ⟨_, _, News.get (by assumption) (by k_mem)⟩⟩ (by assumption)
  · refine kda_itemE (by assumption) (by k_mem) (by assumption) (kind1 hfi r0 r1 (by assumption) (by assumption) (by assumption) (by assumption) (by assumption) (by assumption) (by assumption) (by assumption)) ?_
    intro wd tw tk' hwd
    dsimp only
    (repeat' (walk_at "my step"))
    obtain ⟨i, hm1, hm2⟩ := (by assumption : Mk0 fs _)
    exact fin _ _ _ _ i _ _ _ _ _ (by assumption) (by assumption) (.head _) (by k_mem) (by omega) opsN0 (by assumption) (hm1 _ _ _ (News.get (by assumption) (.head _))) hm2
end
end
section
/-- a register as data -/
def rgP (r : Bool × Int) : PyData := .tuple [.str (rn r.1), .int r.2]
inductive RegsAre (h : Heap) : List Value → List (Bool × Int) → Prop
  | nil : RegsAre h [] []
  | cons {a : Addr} {b : Bool} {k : Int} {vs : List Value} {rs : List (Bool × Int)} : IsRg h a b k → RegsAre h vs rs → RegsAre h (.ref a :: vs) ((b, k) :: rs)
theorem IsRg.tup {h : Heap} {a : Addr} {b : Bool} {k : Int} (x : IsRg h a b k) : ∃ t t', IsTup h a [.str (rn b) t, .int k t'].toArray := by
  obtain ⟨t, t', e⟩ := x
  exact ⟨t, t', _, e, rfl, 0, rfl⟩
theorem IsRg.reads {h : Heap} {a : Addr} {b : Bool} {k : Int} (x : IsRg h a b k) : ∃ as, Reads h (.ref a) (rgP (b, k)) as := by
  obtain ⟨t, t', e⟩ := x
  exact ⟨_, reads_tuple_at e rfl rfl (ReadsAll.cons (Reads.str _ _) (ReadsAll.cons (Reads.int _ _) ReadsAll.nil))⟩
theorem RegsAre.reads {h : Heap} {vs : List Value} {rs : List (Bool × Int)} (x : RegsAre h vs rs) : ∃ as, ReadsAll h vs (rs.map rgP) as := by
  induction x with
  | nil => exact ⟨_, ReadsAll.nil⟩
  | cons x _ ih =>
    obtain ⟨as, q⟩ := x.reads
    obtain ⟨bs, q'⟩ := ih
    exact ⟨_, ReadsAll.cons q q'⟩
theorem RegsAre.keep {h h' : Heap} {as : List Addr} (hK : Keeps as h h') (n : NT h as) {vs : List Value} {rs : List (Bool × Int)} (x : RegsAre h vs rs) : RegsAre h' vs rs := by
  induction x with
  | nil => exact .nil
  | cons x _ ih => exact .cons (x.keep hK n) ih
theorem RegsAre.snoc {h : Heap} {vs : List Value} {rs : List (Bool × Int)} {a : Addr} {b : Bool} {k : Int} (x : RegsAre h vs rs) (y : IsRg h a b k) : RegsAre h (vs ++ [.ref a]) (rs ++ [(b, k)]) := by
  induction x with
  | nil => exact .cons y .nil
  | cons x _ ih => exact .cons x ih
theorem RegsAre.length {h : Heap} {vs : List Value} {rs : List (Bool × Int)} (x : RegsAre h vs rs) : vs.length = rs.length := by
  induction x with
  | nil => rfl
  | cons _ _ ih => simp [ih]
theorem rn_inj {b c : Bool} (h : rn b = rn c) : b = c := by
  cases b <;> cases c <;> first | rfl | (exact absurd h (by decide +kernel))
theorem rgP_eqv (r q : Bool × Int) : PyData.eqv (rgP r) (rgP q) = true ↔ r = q := by
  obtain ⟨b, k⟩ := r
  obtain ⟨c, j⟩ := q
  simp only [rgP, PyData.eqv, PyData.eqvAll, Bool.and_eq_true, Bool.and_true, Prod.mk.injEq]
  constructor
  · rintro ⟨h1, h2⟩
    exact ⟨rn_inj (by simpa using h1), by simpa using h2⟩
  · rintro ⟨rfl, rfl⟩
    simp
theorem rgP_lay (r : Bool × Int) : (rgP r).canLay0 = true ∧ (rgP r).depth ≤ 2 := by
  obtain ⟨b, k⟩ := r
  cases b
  · exact ⟨by simp [rgP, PyData.canLay0, PyData.canLayAll0]; decide +kernel, by simp [rgP, PyData.depth, PyData.depthAll]⟩
  · exact ⟨by simp [rgP, PyData.canLay0, PyData.canLayAll0]; decide +kernel, by simp [rgP, PyData.depth, PyData.depthAll]⟩
theorem rgs_lay (rs : List (Bool × Int)) : PyData.canLayAll0 (rs.map rgP) = true := by
  induction rs with
  | nil => rfl
  | cons r rs ih => simp [PyData.canLayAll0, (rgP_lay r).1, ih]
theorem rgs_any (rs : List (Bool × Int)) (r : Bool × Int) : ((rs.map rgP).any fun y => PyData.eqv y (rgP r)) = decide (r ∈ rs) := by
  induction rs with
  | nil => rfl
  | cons q rs ih =>
    rw [List.map_cons, List.any_cons, ih]
    have e : PyData.eqv (rgP q) (rgP r) = decide (q = r) := by
      by_cases hq : q = r
      · rw [decide_eq_true hq]; exact (rgP_eqv q r).mpr hq
      · rw [decide_eq_false hq]; exact Bool.eq_false_iff.mpr fun z => hq ((rgP_eqv q r).mp z)
    rw [e, ← Bool.decide_or]
    exact decide_eq_decide.mpr ⟨fun h => List.mem_cons.mpr (h.imp Eq.symm id), fun h => (List.mem_cons.mp h).imp Eq.symm id⟩
section
variable {prog : Program} {w : World} {A : Around} {E : Value → Shared → Prop} {s : Shared} {fl r : Addr} {vs : List Value} {n : Nat} {rs : List (Bool × Int)} {b : Bool} {k : Int} {Q : Value → Shared → Prop}
theorem in_regs (hl : s.heap.get? fl = some (listOf vs.toArray n)) (hv : RegsAre s.heap vs rs) (hr : IsRg s.heap r b k) (hu : A.units + 64 < cLine)
    (h : Q (.bool (decide ((b, k) ∈ rs))) s) : wpAny (model prog w) A (compareOp .In (.ref r) (.ref fl)) Q E s := by
  obtain ⟨as, ra⟩ := hv.reads
  obtain ⟨bs, rx⟩ := hr.reads
  refine SeqAt.in_list_reads (reads_list_at hl rfl rfl (by simpa using ra)) rx (rgs_lay rs) (rgP_lay _).1 ?_ (by rw [rgs_any]; exact h)
  have := Nat.min_le_right (PyData.depthAll (rs.map rgP)) (rgP (b, k)).depth
  have := (rgP_lay (b, k)).2
  omega
theorem notIn_regs (hl : s.heap.get? fl = some (listOf vs.toArray n)) (hv : RegsAre s.heap vs rs) (hr : IsRg s.heap r b k) (hu : A.units + 64 < cLine)
    (h : Q (.bool (!decide ((b, k) ∈ rs))) s) : wpAny (model prog w) A (compareOp .NotIn (.ref r) (.ref fl)) Q E s := by
  obtain ⟨as, ra⟩ := hv.reads
  obtain ⟨bs, rx⟩ := hr.reads
  refine SeqAt.notIn_list_reads (reads_list_at hl rfl rfl (by simpa using ra)) rx (rgs_lay rs) (rgP_lay _).1 ?_ (by rw [rgs_any]; exact h)
  have := Nat.min_le_right (PyData.depthAll (rs.map rgP)) (rgP (b, k)).depth
  have := (rgP_lay (b, k)).2
  omega
end
section
variable {prog : Program} {w : World} {A : Around} {E : Value → Shared → Prop} {s : Shared} {fl r L : Addr} {vs : List Value} {n : Nat} {rs : List (Bool × Int)} {b : Bool} {k : Int} {Q : Value → Shared → Prop} {g : Heap} {m : Str → Option Value} {news : List (Addr × Obj)}
theorem in_regsF (F : Fr g L s.heap m) (N : News g L s.heap news) (hm : (fl, listOf vs.toArray n) ∈ news) (hv : RegsAre g vs rs) (hr : IsRg g r b k) (hu : A.units + 64 < cLine)
    (h : Q (.bool (decide ((b, k) ∈ rs))) s) : wpAny (model prog w) A (compareOp .In (.ref r) (.ref fl)) Q E s :=
  in_regs (N.get hm) (hv.keep (as := []) (fun b o e _ => F.keep b o e) (fun _ q => nomatch q)) (hr.keep (as := []) (fun b o e _ => F.keep b o e) (fun _ q => nomatch q)) hu h
theorem notIn_regsN {t1 t2 : Tok} (F : Fr g L s.heap m) (N : News g L s.heap news) (hm : (fl, listOf vs.toArray n) ∈ news) (hv : RegsAre g vs rs) (hr : (r, tupO [.str (Str.ofString "x") t1, .int k t2]) ∈ news) (hu : A.units + 64 < cLine)
    (h : Q (.bool (!decide ((true, k) ∈ rs))) s) : wpAny (model prog w) A (compareOp .NotIn (.ref r) (.ref fl)) Q E s :=
  notIn_regs (b := true) (N.get hm) (hv.keep (as := []) (fun b o e _ => F.keep b o e) (fun _ q => nomatch q)) ⟨t1, t2, N.get hr⟩ hu h
theorem notIn_regsF (F : Fr g L s.heap m) (N : News g L s.heap news) (hm : (fl, listOf vs.toArray n) ∈ news) (hv : RegsAre g vs rs) (hr : IsRg g r b k) (hu : A.units + 64 < cLine)
    (h : Q (.bool (!decide ((b, k) ∈ rs))) s) : wpAny (model prog w) A (compareOp .NotIn (.ref r) (.ref fl)) Q E s :=
  notIn_regs (N.get hm) (hv.keep (as := []) (fun b o e _ => F.keep b o e) (fun _ q => nomatch q)) (hr.keep (as := []) (fun b o e _ => F.keep b o e) (fun _ q => nomatch q)) hu h
end
section
variable {prog : Program} {w : World} {A : Around} {E : Value → Shared → Prop} {s : Shared} {x y : Str} {t u : Tok} {Q : Value → Shared → Prop}
theorem le100 {n : Nat} (h : n ≤ 100) : n ≤ 100 := h
theorem my_add {a b : Nat} (hx : x.length ≤ a) (hy : y.length ≤ b) (hab : a + b ≤ sizeLine) (h : ∀ t' tk, (x ++ y).length ≤ a + b → Q (.str (x ++ y) t') { s with toks := tk }) : wpAny (model prog w) A (binaryOp .Add (.str x t) (.str y u)) Q E s :=
  PyProof.Rows.add_str (fun t' tk => h t' tk (by rw [Str.length_append]; omega)) (by omega)
end
theorem dict_cls {prog : Program} {w : World} {K : Type} [DecidableEq K] {knd : KeyKind prog w K} {o : Obj} {kvs : List (K × Value)} (h : o.IsDictOf knd kvs) : o.cls ≠ .type "tuple" := by
  obtain ⟨es, ep, h1, _⟩ := h
  rw [h1.1]; decide
theorem nt_of {h : Heap} {mods : List (Addr × Obj)} (at0 : ∀ p ∈ mods, h.get? p.1 = some p.2) (hc : ∀ p ∈ mods, p.2.cls ≠ .type "tuple") : NT h (mods.map (·.1)) := fun a ha o e => by
  obtain ⟨p, hp, rfl⟩ := List.mem_map.mp ha
  rw [at0 p hp] at e
  cases e
  exact hc p hp
theorem rn_len (b : Bool) : (rn b).length ≤ 1 := by cases b <;> decide +kernel
theorem dig_len {k : Int} (h1 : 1 ≤ k) (h2 : k ≤ 3) : (Str.ofString (toString k)).length ≤ 1 := by
  have : k = 1 ∨ k = 2 ∨ k = 3 := by omega
  rcases this with rfl | rfl | rfl <;> decide +kernel
end
local macro_rules | `(tactic| walk_at "binaryOp Add str str") => `(tactic| ((fail_if_success (fail_if_success (with_reducible show wpAny _ _ (binaryOp Operator.Add (Value.str _ _) (Value.str _ _)) _ _ _))); refine my_add ?hx ?hy ?hab ?_; (case hx => first | assumption | exact le100 (by decide +kernel)); (case hy => first | assumption | exact le100 (by decide +kernel)); (case hab => decide); intro _ _ _))
local macro_rules | `(tactic| walk_at "compareOp In ref ref") => `(tactic| ((fail_if_success (fail_if_success (with_reducible show wpAny _ _ (compareOp CmpOp.In (Value.ref _) (Value.ref _)) _ _ _))); refine in_regsF (by assumption) (by assumption) (by k_mem) (by assumption) (by assumption) (Nat.le_of_ble_eq_true rfl) ?_))
local macro_rules | `(tactic| walk_at "compareOp NotIn ref ref") => `(tactic| ((fail_if_success (fail_if_success (with_reducible show wpAny _ _ (compareOp CmpOp.NotIn (Value.ref _) (Value.ref _)) _ _ _))); refine notIn_regsN (by assumption) (by assumption) (by k_mem) (by assumption) (by k_mem) (Nat.le_of_ble_eq_true rfl) ?_))
local macro_rules | `(tactic| walk_at "compareOp NotIn ref ref") => `(tactic| ((fail_if_success (fail_if_success (with_reducible show wpAny _ _ (compareOp CmpOp.NotIn (Value.ref _) (Value.ref _)) _ _ _))); refine notIn_regsF (by assumption) (by assumption) (by k_mem) (by assumption) (by assumption) (Nat.le_of_ble_eq_true rfl) ?_))
local macro_rules | `(tactic| walk_at "subscriptTail") => `(tactic| ((fail_if_success (fail_if_success (with_reducible show wpAny _ _ (subscriptTail _ _ (Value.ref _) (Value.int _ _)) _ _ _))); refine item_tupleT (Fr.tup (by assumption) (by assumption)) (by decide) (by decide) rfl rfl ?_))
section
variable {w : World} {A A₀ : Around} {base g : Heap} {outer : List Env} {env : Env} {s : Shared} {p : Program} {loose : List Str} {mean : ExcName → Option Value} {mg mb : Str → Option Value}
  {R : Result → Shared → Prop} {Q E : Value → Shared → Prop} {L : Addr} {m : Str → Option Value} {news : List (Addr × Obj)}
abbrev PP : Program := PySem.Challenge.rw_ok0019_01.row.prog
abbrev bkK (fl : Addr) (room : Int) (t : Tok) (e d : Bool) : List (Str × Value) := [(Str.ofString "filled", .ref fl), (Str.ofString "room", .int room t), (Str.ofString "ended", .bool e), (Str.ofString "dead", .bool d)]
theorem IsRg.up {h h' : Heap} {as : List Addr} {a : Addr} {b : Bool} {k : Int} (x : IsRg h a b k) (hg : ∀ b o, h.get? b = some o → b ∉ as → h'.get? b = some o) (n : NT h as) : IsRg h' a b k := x.keep hg n
def spOf (b : Bool) (k : Int) : Str := rn b ++ Str.ofString (toString k)
def lawReading (rs : List (Bool × Int)) (room : Int) (b : Bool) (k : Int) : Str :=
  if b = false ∧ room < k then spOf b k ++ Str.ofString " is read outside of the environment"
  else if (b, k) ∈ rs then Str.ofString "" else spOf b k ++ Str.ofString " is read before it is written"
theorem lawread_spec {bk fl r : Addr} {ob : Obj} {vs : List Value} {n : Nat} {rs : List (Bool × Int)} {room : Int} {t : Tok} {e d b : Bool} {k : Int}
    (D : Rdy A base outer s.heap [(bk, ob), (fl, listOf vs.toArray n)]) (C : Wd w base p loose mean mg mb) (hd : A.depth ≤ 580) (hu : A.units ≤ 1800) (hne : bk ≠ fl)
    (hob : ob.IsDictOf (strKind PP w) (bkK fl room t e d)) (lo : (bk == sysModules) = false) (hv : RegsAre s.heap vs rs) (hr : IsRg s.heap r b k) (hk : RgOk b k) (hroom : -1 ≤ room ∧ room ≤ 3) (nt : NT s.heap [bk, fl])
    (z : ∀ t' h' tk', Keeps [] s.heap h' → R (.ok (.ret (.str (lawReading rs room b k) t'))) { s with heap := h', toks := tk' }) :
    codeAny (MM w) A (.call (.ref 390) ⟨[.ref bk, .ref r], []⟩) R s := by
  refine' enter 580 1800 (binds := [(Str.ofString "book", .ref bk), (Str.ofString "register", .ref r)]) D C.X C.T hd hu ?k6 ?k7 ?k8 ?k9 ?kB ?_ ?c2 ?c3 ?c4 ?c5
  walk_at "my enter"
  intro g L h₁ tk eL hg hgs F N l1 B X T env1
  have at0 := D.at_
  clear D
  k_lt l1
  have hr := hr.keep hg nt
  have hv := hv.keep hg nt
  obtain ⟨t1, t2, htup⟩ := hr.tup
  obtain ⟨k1, k3, k2⟩ := hk
  obtain ⟨ro1, ro2⟩ := hroom
  have hn1 := rn_len b
  have hn2 := dig_len k1 k3
  have zz : ∀ x t' h' tk', x = lawReading rs room b k → Keeps [] s.heap h' → R (.ok (.ret (.str x t'))) { s with heap := h', toks := tk' } := fun x t' h' tk' e => e ▸ z t' h' tk'
  cases b
  all_goals ((repeat' (walk_at "my step")))
  all_goals exact zz _ _ _ _ (by simp [lawReading, spOf, *]) (keeps0 at0 hg (by assumption) (by assumption) (fun _ hp => hp))
theorem lawread_use {bk fl r : Addr} {ob : Obj} {vs : List Value} {n : Nat} {rs : List (Bool × Int)} {room : Int} {t : Tok} {e d b : Bool} {k : Int}
    (B : Below A₀ base outer g) (F : Fr g L s.heap m) (N : News g L s.heap news) (C : Wd w base p loose mean mg mb)
    (hh : A.handled = none) (hA : A.frames = some (env :: outer)) (hf : env.frame = some L) (hke : env.scope.kind = .function)
    (hd : A.depth ≤ 580) (hu : A.units ≤ 1800) (hne : bk ≠ fl) (hob : ob.IsDictOf (strKind PP w) (bkK fl room t e d)) (lo : (bk == sysModules) = false)
    (m1 : (bk, ob) ∈ news) (m2 : (fl, listOf vs.toArray n) ∈ news) (hv : RegsAre g vs rs) (hr : IsRg g r b k) (hk : RgOk b k) (hroom : -1 ≤ room ∧ room ≤ 3)
    (z : ∀ t' h' tk', Fr g L h' m → News g L h' news → Q (.str (lawReading rs room b k) t') { s with heap := h', toks := tk' }) :
    wpAny (MM w) A (call (.ref 390) [.ref bk, .ref r]) Q E s := by
  have hs : ∀ p ∈ [(bk, ob), (fl, listOf vs.toArray n)], p ∈ news := by
    intro p hp
    rcases List.mem_cons.mp hp with rfl | hp
    · exact m1
    · rw [List.mem_singleton.mp hp]; exact m2
  have N1 := newsSub N hs
  have K0 : Keeps [] g s.heap := fun b o e _ => F.keep b o e
  have nt0 : NT g [] := fun _ q => nomatch q
  have nt : NT s.heap [bk, fl] := nt_of (mods := [(bk, ob), (fl, listOf vs.toArray n)]) (fun p hp => (N1 p hp).1) (by
    intro p hp
    rcases List.mem_cons.mp hp with rfl | hp
    · exact dict_cls hob
    · rw [List.mem_singleton.mp hp]; show Value.type "list" ≠ Value.type "tuple"; decide)
  refine wpAny_call (lawread_spec (Rdy.nest B F N1 hh hA hf hke) C hd hu hne hob lo (hv.keep K0 nt0) (hr.keep K0 nt0) hk hroom nt fun t' h' tk' hK => ?_)
  exact z t' h' tk' (frAfter F (mods := []) (fun _ q => nomatch q) hK) (newsAfter0 N hK)
end
section
variable {w : World} {A A₀ : Around} {base g : Heap} {outer : List Env} {env : Env} {s : Shared} {p : Program} {loose : List Str} {mean : ExcName → Option Value} {mg mb : Str → Option Value}
  {R : Result → Shared → Prop} {Q E : Value → Shared → Prop} {L : Addr} {m : Str → Option Value} {news : List (Addr × Obj)}
def lawWriting (rs : List (Bool × Int)) (room : Int) (b : Bool) (k : Int) : List (Bool × Int) × Str :=
  if b = false ∧ room < k then (rs, spOf b k ++ Str.ofString " is written outside of the environment")
  else if (b, k) ∈ rs then (rs, Str.ofString "") else (rs ++ [(b, k)], Str.ofString "")
theorem lawwrite_spec {bk fl r : Addr} {ob : Obj} {vs : List Value} {n : Nat} {rs : List (Bool × Int)} {room : Int} {t : Tok} {e d b : Bool} {k : Int}
    (D : Rdy A base outer s.heap [(bk, ob), (fl, listOf vs.toArray n)]) (C : Wd w base p loose mean mg mb) (hd : A.depth ≤ 580) (hu : A.units ≤ 1800) (hne : bk ≠ fl) (hlen : vs.length ≤ 100)
    (hob : ob.IsDictOf (strKind PP w) (bkK fl room t e d)) (lo : (bk == sysModules) = false) (hv : RegsAre s.heap vs rs) (hr : IsRg s.heap r b k) (hk : RgOk b k) (hroom : -1 ≤ room ∧ room ≤ 3) (nt : NT s.heap [bk, fl])
    (z : ∀ t' h' tk' vs' n', (∀ H, RegsAre H vs rs → IsRg H r b k → RegsAre H vs' (lawWriting rs room b k).1) → vs'.length ≤ vs.length + 1 → Keeps [fl] s.heap h' → h'.get? fl = some (listOf vs'.toArray n') → R (.ok (.ret (.str (lawWriting rs room b k).2 t'))) { s with heap := h', toks := tk' }) :
    codeAny (MM w) A (.call (.ref 397) ⟨[.ref bk, .ref r], []⟩) R s := by
  refine' enter 580 1800 (binds := [(Str.ofString "book", .ref bk), (Str.ofString "register", .ref r)]) D C.X C.T hd hu ?k6 ?k7 ?k8 ?k9 ?kB ?_ ?c2 ?c3 ?c4 ?c5
  walk_at "my enter"
  intro g L h₁ tk eL hg hgs F N l1 B X T env1
  have at0 := D.at_
  clear D
  k_lt l1
  have hr := hr.keep hg nt
  have hv := hv.keep hg nt
  obtain ⟨t1, t2, htup⟩ := hr.tup
  obtain ⟨k1, k3, k2⟩ := hk
  obtain ⟨ro1, ro2⟩ := hroom
  have hn1 := rn_len b
  have hn2 := dig_len k1 k3
  have zz : ∀ x rs' t' h' tk' vs' n', lawWriting rs room b k = (rs', x) → (∀ H, RegsAre H vs rs → IsRg H r b k → RegsAre H vs' rs') → vs'.length ≤ vs.length + 1 → Keeps [fl] s.heap h' → h'.get? fl = some (listOf vs'.toArray n') → R (.ok (.ret (.str x t'))) { s with heap := h', toks := tk' } := by
    intro x rs' t' h' tk' vs' n' e
    have e1 : rs' = (lawWriting rs room b k).1 := by rw [e]
    have e2 : x = (lawWriting rs room b k).2 := by rw [e]
    rw [e1, e2]
    exact z t' h' tk' vs' n'
  cases b
  all_goals ((repeat' (walk_at "my step")))
  · exact zz _ rs _ _ _ vs n (by simp [lawWriting, spOf, *]) (fun _ x _ => x) (Nat.le_succ _) (keepsM at0 hg F N [fl] fun _ hp => .inr hp) (N.get (.tail _ (.head _)))
  · exact zz _ rs _ _ _ vs n (by simp [lawWriting, spOf, *]) (fun _ x _ => x) (Nat.le_succ _) (keepsM at0 hg F N [fl] fun _ hp => .inr hp) (N.get (.tail _ (.head _)))
  · refine zz _ (rs ++ [(false, k)]) _ _ _ (vs ++ [.ref r]) (n + 1) (by simp [lawWriting, spOf, *]) (fun _ x y => x.snoc y) (by simp) (keepsM at0 hg (by assumption) (by assumption) [fl] ?_) (by rw [← List.push_toArray]; exact News.get (by assumption) (.tail _ (.head _)))
    intro p hp
    rcases List.mem_cons.mp hp with rfl | hp
    · exact .inr (.head _)
    · rw [List.mem_singleton.mp hp]; exact .inl (.head _)
  · exact zz _ rs _ _ _ vs n (by simp [lawWriting, spOf, *]) (fun _ x _ => x) (Nat.le_succ _) (keepsM at0 hg F N [fl] fun _ hp => .inr hp) (N.get (.tail _ (.head _)))
  · refine zz _ (rs ++ [(true, k)]) _ _ _ (vs ++ [.ref r]) (n + 1) (by simp [lawWriting, spOf, *]) (fun _ x y => x.snoc y) (by simp) (keepsM at0 hg (by assumption) (by assumption) [fl] ?_) (by rw [← List.push_toArray]; exact News.get (by assumption) (.tail _ (.head _)))
    intro p hp
    rcases List.mem_cons.mp hp with rfl | hp
    · exact .inr (.head _)
    · rw [List.mem_singleton.mp hp]; exact .inl (.head _)
theorem lawwrite_use {bk fl r : Addr} {ob : Obj} {vs : List Value} {n : Nat} {rs : List (Bool × Int)} {room : Int} {t : Tok} {e d b : Bool} {k : Int} {nf : Obj → List (Addr × Obj)}
    (B : Below A₀ base outer g) (F : Fr g L s.heap m) (N : News g L s.heap news) (C : Wd w base p loose mean mg mb)
    (hh : A.handled = none) (hA : A.frames = some (env :: outer)) (hf : env.frame = some L) (hke : env.scope.kind = .function)
    (hd : A.depth ≤ 580) (hu : A.units ≤ 1800) (hne : bk ≠ fl) (hlen : vs.length ≤ 100) (hob : ob.IsDictOf (strKind PP w) (bkK fl room t e d)) (lo : (bk == sysModules) = false)
    (m1 : (bk, ob) ∈ news) (U : ∀ o', Upd fl (listOf vs.toArray n) o' news (nf o')) (hv : RegsAre g vs rs) (hr : IsRg g r b k) (hk : RgOk b k) (hroom : -1 ≤ room ∧ room ≤ 3)
    (z : ∀ t' h' tk' vs' n', (∀ H, RegsAre H vs rs → IsRg H r b k → RegsAre H vs' (lawWriting rs room b k).1) → vs'.length ≤ vs.length + 1 → Fr g L h' m → News g L h' (nf (listOf vs'.toArray n')) → Q (.str (lawWriting rs room b k).2 t') { s with heap := h', toks := tk' }) :
    wpAny (MM w) A (call (.ref 397) [.ref bk, .ref r]) Q E s := by
  have m2 := updMem (U (listOf vs.toArray n))
  have hs : ∀ p ∈ [(bk, ob), (fl, listOf vs.toArray n)], p ∈ news := by
    intro p hp
    rcases List.mem_cons.mp hp with rfl | hp
    · exact m1
    · rw [List.mem_singleton.mp hp]; exact m2
  have N1 := newsSub N hs
  have N2 : News g L s.heap [(fl, listOf vs.toArray n)] := newsSub N fun p hp => hs p (.tail _ hp)
  have K0 : Keeps [] g s.heap := fun b o e _ => F.keep b o e
  have nt0 : NT g [] := fun _ q => nomatch q
  have nt : NT s.heap [bk, fl] := nt_of (mods := [(bk, ob), (fl, listOf vs.toArray n)]) (fun p hp => (N1 p hp).1) (by
    intro p hp
    rcases List.mem_cons.mp hp with rfl | hp
    · exact dict_cls hob
    · rw [List.mem_singleton.mp hp]; show Value.type "list" ≠ Value.type "tuple"; decide)
  refine wpAny_call (lawwrite_spec (Rdy.nest B F N1 hh hA hf hke) C hd hu hne hlen hob lo (hv.keep K0 nt0) (hr.keep K0 nt0) hk hroom nt fun t' h' tk' vs' n' h1 h2 hK hq => ?_)
  exact z t' h' tk' vs' n' h1 h2 (frAfter F N2 hK) (newsAfter1 N (U _) hK hq)
end
section
variable {w : World} {A A₀ : Around} {base g : Heap} {outer : List Env} {env : Env} {s : Shared} {p : Program} {loose : List Str} {mean : ExcName → Option Value} {mg mb : Str → Option Value}
  {R : Result → Shared → Prop} {Q E : Value → Shared → Prop} {L : Addr} {m : Str → Option Value} {news : List (Addr × Obj)}
def spA (n : Int) : Str := Str.ofString "argument " ++ Str.ofString (toString n) ++ Str.ofString " is lacking"
def lackOf (rs : List (Bool × Int)) (n : Int) : Str :=
  if 1 ≤ n ∧ (true, 1) ∉ rs then spA 1 else if 2 ≤ n ∧ (true, 2) ∉ rs then spA 2 else Str.ofString ""
theorem lawlack_spec {bk fl : Addr} {ob : Obj} {vs : List Value} {n : Nat} {rs : List (Bool × Int)} {room : Int} {t u : Tok} {e d : Bool} {size : Int}
    (D : Rdy A base outer s.heap [(bk, ob), (fl, listOf vs.toArray n)]) (C : Wd w base p loose mean mg mb) (hd : A.depth ≤ 580) (hu : A.units ≤ 1800) (hne : bk ≠ fl)
    (hob : ob.IsDictOf (strKind PP w) (bkK fl room t e d)) (lo : (bk == sysModules) = false) (hv : RegsAre s.heap vs rs) (hsz : 0 ≤ size ∧ size < 3) (nt : NT s.heap [bk, fl])
    (z : ∀ t' h' tk', Keeps [] s.heap h' → R (.ok (.ret (.str (lackOf rs size) t'))) { s with heap := h', toks := tk' }) :
    codeAny (MM w) A (.call (.ref 404) ⟨[.ref bk, .int size u], []⟩) R s := by
  refine' enter 580 1800 (binds := [(Str.ofString "book", .ref bk), (Str.ofString "size_of", .int size u)]) D C.X C.T hd hu ?k6 ?k7 ?k8 ?k9 ?kB ?_ ?c2 ?c3 ?c4 ?c5
  walk_at "my enter"
  intro g L h₁ tk eL hg hgs F N l1 B X T env1
  have at0 := D.at_
  clear D
  k_lt l1
  have hv := hv.keep hg nt
  have zz : ∀ x t' h' tk', x = lackOf rs size → Keeps [] s.heap h' → R (.ok (.ret (.str x t'))) { s with heap := h', toks := tk' } := fun x t' h' tk' e => e ▸ z t' h' tk'
  obtain ⟨s0, s1⟩ := hsz
  have hr : size = 0 ∨ size = 1 ∨ size = 2 := by omega
  clear s0 s1
  rcases hr with rfl | rfl | rfl
  all_goals ((repeat' (walk_at "my step")))
  all_goals first
    | (exfalso; omega)
    | exact zz _ _ _ _ (by
        first
        | (rw [lackOf, if_neg (fun q => absurd q.1 (by decide)), if_neg (fun q => absurd q.1 (by decide))]; done)
        | (have h1 : (true, (1 : Int)) ∉ rs := (by assumption); (rw [lackOf, if_pos ⟨by decide, h1⟩]; rfl))
        | (have h1 : (true, (1 : Int)) ∈ rs := (by assumption); (rw [lackOf, if_neg (fun q => q.2 h1), if_neg (fun q => absurd q.1 (by decide))]; done))
        | (have h1 : (true, (1 : Int)) ∈ rs := (by assumption); have h2 : (true, (2 : Int)) ∉ rs := (by assumption); (rw [lackOf, if_neg (fun q => q.2 h1), if_pos ⟨by decide, h2⟩]; rfl))
        | (have h1 : (true, (1 : Int)) ∈ rs := (by assumption); have h2 : (true, (2 : Int)) ∈ rs := (by assumption); (rw [lackOf, if_neg (fun q => q.2 h1), if_neg (fun q => q.2 h2)]; done))) (keepsM at0 hg (by assumption) (by assumption) [] (by intro p hp; exact .inr (by (first | exact hp | exact .tail _ hp | exact .tail _ (.tail _ hp) | exact .tail _ (.tail _ (.tail _ hp))))))
theorem lawlack_use {bk fl : Addr} {ob : Obj} {vs : List Value} {n : Nat} {rs : List (Bool × Int)} {room : Int} {t u : Tok} {e d : Bool} {size : Int}
    (B : Below A₀ base outer g) (F : Fr g L s.heap m) (N : News g L s.heap news) (C : Wd w base p loose mean mg mb)
    (hh : A.handled = none) (hA : A.frames = some (env :: outer)) (hf : env.frame = some L) (hke : env.scope.kind = .function)
    (hd : A.depth ≤ 580) (hu : A.units ≤ 1800) (hne : bk ≠ fl) (hob : ob.IsDictOf (strKind PP w) (bkK fl room t e d)) (lo : (bk == sysModules) = false)
    (m1 : (bk, ob) ∈ news) (m2 : (fl, listOf vs.toArray n) ∈ news) (hv : RegsAre g vs rs) (hsz : 0 ≤ size ∧ size < 3)
    (z : ∀ t' h' tk', Fr g L h' m → News g L h' news → Q (.str (lackOf rs size) t') { s with heap := h', toks := tk' }) :
    wpAny (MM w) A (call (.ref 404) [.ref bk, .int size u]) Q E s := by
  have hs : ∀ p ∈ [(bk, ob), (fl, listOf vs.toArray n)], p ∈ news := by
    intro p hp
    rcases List.mem_cons.mp hp with rfl | hp
    · exact m1
    · rw [List.mem_singleton.mp hp]; exact m2
  have N1 := newsSub N hs
  have K0 : Keeps [] g s.heap := fun b o e _ => F.keep b o e
  have nt0 : NT g [] := fun _ q => nomatch q
  have nt : NT s.heap [bk, fl] := nt_of (mods := [(bk, ob), (fl, listOf vs.toArray n)]) (fun p hp => (N1 p hp).1) (by
    intro p hp
    rcases List.mem_cons.mp hp with rfl | hp
    · exact dict_cls hob
    · rw [List.mem_singleton.mp hp]; show Value.type "list" ≠ Value.type "tuple"; decide)
  refine wpAny_call (lawlack_spec (Rdy.nest B F N1 hh hA hf hke) C hd hu hne hob lo (hv.keep K0 nt0) hsz nt fun t' h' tk' hK => ?_)
  exact z t' h' tk' (frAfter F (mods := []) (fun _ q => nomatch q) hK) (newsAfter0 N hK)
end
section
theorem IsRg.fn {h : Heap} {a : Addr} {b c : Bool} {k j : Int} (x : IsRg h a b k) (y : IsRg h a c j) : b = c ∧ k = j := by
  obtain ⟨t, t', e⟩ := x
  obtain ⟨u, u', e'⟩ := y
  rw [e] at e'
  simp only [Option.some.injEq, Obj.mk.injEq, Data.seq.injEq, Array.mk.injEq, List.cons.injEq, Value.str.injEq, Value.int.injEq, and_true, true_and] at e'
  exact ⟨rn_inj e'.1.1, e'.2.1⟩
open Classical in
noncomputable def pOf (g : Heap) (pr : Bool × Int → Bool) (v : Value) : Bool := decide (∃ a b k, v = .ref a ∧ IsRg g a b k ∧ pr (b, k) = true)
open Classical in
theorem pOf_is {g : Heap} {pr : Bool × Int → Bool} {a : Addr} {b : Bool} {k : Int} (x : IsRg g a b k) : pOf g pr (.ref a) = pr (b, k) := by
  unfold pOf
  cases h : pr (b, k) with
  | true => exact decide_eq_true ⟨a, b, k, rfl, x, h⟩
  | false =>
    refine decide_eq_false ?_
    rintro ⟨a', c, j, e, y, h'⟩
    cases e
    obtain ⟨rfl, rfl⟩ := x.fn y
    rw [h] at h'; cases h'
theorem RegsAre.filter {g : Heap} {pr : Bool × Int → Bool} {vs : List Value} {rs : List (Bool × Int)} (x : RegsAre g vs rs) : ∀ {H : Heap}, RegsAre H vs rs → RegsAre H (vs.filter (pOf g pr)) (rs.filter pr) := by
  induction x with
  | nil => intro H _; exact .nil
  | cons x _ ih =>
    intro H y
    cases y with
    | cons y z =>
      rw [List.filter_cons, List.filter_cons, pOf_is x]
      split
      · exact .cons y (ih z)
      · exact ih z
theorem RegsAre.mem {h : Heap} {vs : List Value} {rs : List (Bool × Int)} (x : RegsAre h vs rs) : ∀ v ∈ vs, ∃ a b k, v = .ref a ∧ IsRg h a b k ∧ (b, k) ∈ rs := by
  induction x with
  | nil => intro v hv; cases hv
  | cons x _ ih =>
    intro v hv
    rcases List.mem_cons.mp hv with rfl | hv
    · exact ⟨_, _, _, rfl, x, .head _⟩
    · obtain ⟨a, b, k, e, y, hm⟩ := ih v hv
      exact ⟨a, b, k, e, y, .tail _ hm⟩
theorem paired_eq : ∀ {l₁ l₂ : List Value}, PySem.Paired (fun v y => y = v) l₁ l₂ → l₂ = l₁
  | _, _, .nil => rfl
  | _, _, .cons h r => by rw [h, paired_eq r]
/-- where the list is read: what the test and the rest ask -/
inductive FiltAt (prog : Program) (w : World) (A : Around) (g : Heap) (L : Addr) (x : Str) (t : Expr) (scope : Scope) (cl : List (Str × Addr)) (env : Env) (pr : Bool × Int → Bool) (Q : Value → Shared → Prop) : Value → Shared → Prop
  | mk {s₁ : Shared} {m : Str → Option Value} {news : List (Addr × Obj)} {fl : Addr} {vs : List Value} {n : Nat} {rs : List (Bool × Int)} (F : Fr g L s₁.heap m) (N : News g L s₁.heap news) (hm : (fl, listOf vs.toArray n) ∈ news) (hv : RegsAre g vs rs) (hlen : vs.length ≤ 1000)
      (ht : ∀ C a b k s₂ m₂ E', IsRg g a b k → (b, k) ∈ rs → Fr s₁.heap C s₂.heap m₂ → m₂ x = some (.ref a) →
        wpAny (model prog w) A (isTrue t (compEnvC scope cl C env) (eval t (compEnvC scope cl C env))) (fun ok s₃ => ok = pr (b, k) ∧ PySem.Keeps s₂ s₃) E' s₂)
      (hQ : ∀ D (ys : List Value) n' h' tk, Fr g L h' m → News g L h' ((D, listOf ys.toArray n') :: news) → (∀ p ∈ news, p.1 ≠ D) → (∀ H, RegsAre H vs rs → RegsAre H ys (rs.filter pr)) → ys.length ≤ vs.length → Q (.ref D) { s₁ with heap := h', toks := tk }) :
      FiltAt prog w A g L x t scope cl env pr Q (.ref fl) s₁
section
variable {prog : Program} {w : World} {A : Around} {E : Value → Shared → Prop} {s : Shared} {g : Heap} {L : Addr} {env : Env}
theorem comp_filter {iter t : Expr} {x : Str} {px px' : Pos} {scope : Scope} {cl : List (Str × Addr)} {pos : Pos} {Q : Value → Shared → Prop} {pr : Bool × Int → Bool}
    (hh : A.handled = none) (hclos : closureFor scope env = pure cl) (hcell : ∀ y ∈ scope.names, y.2 ≠ .cell) (hkind : scope.kind = .function)
    (hnames : ∀ y ∈ scope.names, y.2 = .local → scope.names.lookup y.1 = some .local) (hx : scope.names.lookup x = some .local) (hxd : (x == ("__debug__" : Str)) = false)
    (h : wpAny (model prog w) A (eval iter env) (FiltAt prog w A g L x t scope cl env pr Q) E s)
    (hs : ∀ x, foldedSetIterable iter env x = pure x) :
    wpAny (model prog w) A (eval (.ListComp (.Name x px') [⟨.Name x px, iter, [t], 0⟩] scope pos) env) Q E s := by
  refine wpAny_ListComp_free (pOf g pr) (fun v y => y = v) hclos hcell hkind hnames hx (wpAny_mono h (fun xv s₁ h₁ => ?_) fun _ _ e => e) hs
  obtain @⟨s₁, m, news, fl, vs, n, rs, F, N, hm, hv, hlen, htest, hQ⟩ := h₁
  have hl : s₁.heap.IsList fl vs.toArray := N.isList hm
  have hlt : fl < s₁.heap.objs.size := Heap.lt_size (N _ hm).1
  have up : ∀ (s₃ : Shared), (∀ b o, b ∉ [s₁.heap.objs.size] → (s₁.heap.push { cls := .type "list_iterator", data := .fields #[.ref fl, .int 0 0] }).get? b = some o → s₃.heap.get? b = some o) → ∀ b o, s₁.heap.get? b = some o → s₃.heap.get? b = some o :=
    fun s₃ hk b o e => hk b o (fun hm => by rcases List.mem_cons.mp hm with rfl | hm; exact Nat.lt_irrefl _ (Heap.lt_size e); cases hm) (Heap.get?_push_of_some _ e)
  refine wpAny_pyIter_list hl ⟨s₁.heap.objs.size, [s₁.heap.objs.size, fl], [s₁.heap.objs.size], vs.toArray.size, _, _, rfl, Walks.list hh _ _ (Nat.ne_of_lt hlt) vs.toArray, (by rw [List.size_toArray, sizeLine_eq]; omega), ⟨⟨_, Heap.get?_push_size _ rfl, rfl, rfl⟩, hl.push _⟩, ?_, ⟨?_, ?_⟩, ?_⟩
  · intro b hb
    show b < (s₁.heap.push _).objs.size
    rw [Heap.size_push]
    rcases List.mem_cons.mp hb with rfl | hb
    · exact Nat.lt_succ_self _
    · rcases List.mem_cons.mp hb with rfl | hb
      · exact Nat.lt_succ_of_lt hlt
      · cases hb
  · intro C i v s₃ m₃ E' hC hP hn hm hk _
    obtain ⟨a, b, k, rfl, hr, hmem⟩ := hv.mem v (by simpa using Array.mem_of_getElem? hP)
    rw [pOf_is hr]
    have F3 : Fr s₁.heap C s₃.heap m₃ := ⟨hn, up s₃ hk, Nat.le_of_succ_le (by simpa [Heap.size_push] using hC)⟩
    have z := htest C a b k s₃ m₃ E' hr hmem F3 hm
    show wpAny (model prog w) A (forIn [t] true fun c r => if r = true then do let ok ← isTrue c (compEnvC scope cl C env) (eval c (compEnvC scope cl C env)); pure (ForInStep.yield ok) else pure (ForInStep.yield r)) _ _ _
    rw [List.forIn_cons]
    refine wpAny_bind ?_
    rw [if_pos rfl]
    refine wpAny_bind (wpAny_mono z (fun ok s₄ h₄ => wpAny_pure ?_) fun _ _ e => e)
    dsimp only
    rw [List.forIn_nil]
    exact wpAny_pure h₄
  · intro C i v s₃ m₃ E' hC hP hp hn hm hk _
    exact wpAny_Name (wpAny_loadName_local (by show (relabel scope env).kind = _; exact hkind) (lookup_relabel_local hx) hn hm ⟨rfl, s₃.heap, s₃.toks, rfl, fun _ _ e => e⟩) hxd
  · intro D h' tk ys vs' hnew hlD hplD hlen' hP hF hk
    have e : vs' = vs := by simpa using list_of_places hlen' hP
    subst e
    have keep : ∀ b o, s₁.heap.get? b = some o → h'.get? b = some o := up { s₁ with heap := h' } hk
    obtain ⟨n', hD⟩ := hplD
    have F' := F.keeps keep
    have hnone : s₁.heap.get? D = none := by
      cases q : s₁.heap.get? D with
      | none => rfl
      | some o => rw [Heap.get?_push_of_some _ q] at hnew; cases hnew
    have hys := paired_eq hF
    refine hQ D ys.toList n' h' tk F' (newsCons (N.grown keep) (by rw [Array.toArray_toList]; exact hD) (newNe F hnone) (newNone F hnone)) (fun p hp e => ?_) (fun H y => by rw [hys]; exact hv.filter y) (by rw [hys]; exact List.length_filter_le _ _)
    have := (N p hp).1
    rw [e, hnone] at this; cases this
end
end
section
section
variable {prog : Program} {w : World} {A : Around} {s : Shared} {K : Frag} {base : Heap} {outer : List Env} {mg mb : Str → Option Value} {p : Program} {loose : List Str} {mean : ExcName → Option Value} {mods : List (Addr × Obj)}
  {R : Result → Shared → Prop} {name qual : Str} {params : Arguments} {body : List Stmt} {scope : Scope} {dV kV doc pm cdv ct oc : Value} {an od : Option Addr} {osl : Array (Option Value)} {f : Addr} {args : Args} {binds : List (Str × Value)}
/-- the same for a def with cells -/
theorem enterC (Dp Un : Nat) (D : Rdy A base outer s.heap mods) (X : K.In base) (T : Top p loose mean mg mb base) (hd : A.depth ≤ Dp) (hu : A.units ≤ Un)
    (ho : K.lookup f = some ⟨oc, od, .func (fnOf name qual params body scope dV kV doc pm an cdv ct), osl⟩) (hcd : codeIn K cdv qual = true) (hroom : Dp < recursionLimit)
    (hbind : BindsTo s (fnOf name qual params body scope dV kV doc pm an cdv ct) args binds)
    (hkind : (binds.all fun y => scope.names.lookup y.1 == some .local || scope.names.lookup y.1 == some .cell) = true)
    (hnd : ((cellsFrom 0 scope.names []).map (·.1)).Nodup)
    (h : ∀ g L h₁ tk cells, L = s.heap.objs.size → (∀ b o, s.heap.get? b = some o → b ∉ mods.map (·.1) → g.get? b = some o) → (∀ b o, g.get? b = some o → s.heap.get? b = some o) →
      Fr g L h₁ (bindL (envOfC qual scope L f cdv).kindOf binds fun _ => none) → News g L h₁ (cells ++ mods) →
      CellsAre (bindC (envOfC qual scope L f cdv).kindOf binds fun _ => none) (cellsFrom (L + 1) scope.names []) cells → (∀ p ∈ mods, p.1 < L) →
      Below A base outer g → K.In g → Top p loose mean mg mb g →
      wpAny (model prog w) (Ar (Dp + 1) (Un + 3) (envOfC qual scope L f cdv :: outer)) (execs body (envOfC qual scope L f cdv))
        (fun fl s' => R (.ok (.ret (match fl with | .ret v => v | _ => .none))) s') (fun _ _ => False) { s with heap := h₁, toks := tk })
    (hco : scope.isCoroutine = false) (hgen : scope.isGenerator = false) (hk : scope.kind = .function) : codeAny (model prog w) A (.call (.ref f) args) R s := by
  have B := D.hide
  have st := B.stays
  refine codeAny_call_function (Nat.lt_of_le_of_lt hd hroom) (D.below.stays _ _ (X _ _ ho)) rfl hco hgen rfl (codeRec_of (X.keeps D.below.stays) hcd) (hbind _ _ _ _ ?_)
  refine wpAny_newFunctionEnv_cells hk (kindsX hkind _) fun env' he s' x => ?_
  subst he
  refine ⟨(T.nolimit.keeps D.below.stays).keeps x.toInCall.keep, codeAny_func ?_⟩
  obtain ⟨h₁, tk, rfl, _⟩ := x.done
  have hk₁ := x.toInCall.keep
  obtain ⟨cells, NC, Y⟩ := Cl.news (h₀ := s.heap) (Nat.le_refl _) fun n c hm => ⟨x.cell n c (lookup_of_mem_nodup (cellsFrom_names scope.names 0 (s.heap.objs.size + 1) [] [] rfl ▸ hnd) hm), x.above n c hm⟩
  refine wpAny_more (A' := Ar (Dp + 1) (Un + 3) (envOfC qual scope s.heap.objs.size f cdv :: outer)) ?_ D.hand (Nat.succ_le_succ hd) (fun l hl => ?_) (fun l hl => nomatch hl) (Nat.add_le_add_right hu 3)
  · refine wpAny_mono (h (hideAll s.heap (mods.map (fun x : Addr × Obj => x.1))) s.heap.objs.size h₁ tk cells rfl (fun b o e n => hideAll_get _ e n) (fun b o e => of_hideAll _ e) ⟨x.toInCall.ns, fun b o e => hk₁ b o (of_hideAll _ e), Nat.le_of_eq (hideAll_size _ _)⟩
      (fun p hp => ?_) Y (fun p hp => Heap.lt_size (D.at_ p hp)) B (X.keeps (fun b o e => st b o e)) (T.keeps (fun b o e => st b o e))) (fun _ _ y => y) fun _ _ y => y.elim
    rcases List.mem_append.mp hp with hp | hp
    · refine ⟨(NC p hp).1, (NC p hp).2.1, ?_⟩
      cases q : (hideAll s.heap (mods.map (fun x : Addr × Obj => x.1))).get? p.1 with
      | none => rfl
      | some o => have := of_hideAll _ q; rw [(NC p hp).2.2] at this; cases this
    · exact ⟨hk₁ _ _ (D.at_ p hp), Nat.ne_of_lt (Heap.lt_size (D.at_ p hp)), hideAll_none _ (List.mem_map_of_mem hp)⟩
  · show A.frames.map _ = _
    rw [D.below.stack]; exact hl
end
/-- behind a def that was entered in place -/
def outK (h₀ : Heap) (L : Addr) (m : Str → Option Value) (g : Heap) (Q : Value → Shared → Prop) (fl : Flow) (s' : Shared) : Prop :=
  LeaveK h₀ L m g (fun r s' => match r with | .ok (.ret v) => Q v s' | _ => False) (match fl with | .ret v => v | _ => .none) s'
section
variable {h₀ g : Heap} {L L' : Addr} {m m' : Str → Option Value} {news' : List (Addr × Obj)} {Q : Value → Shared → Prop} {v : Value} {hp : Heap} {gs : Array GenState} {dr : Drawn} {tk : Nat} {os : OsState}
theorem outK_ret (F' : Fr g L' hp m') (N' : News g L' hp news') (k : Fr h₀ L hp m → News h₀ L hp news' → Q v ⟨hp, gs, dr, tk, os⟩) : outK h₀ L m g Q (.ret v) ⟨hp, gs, dr, tk, os⟩ := ⟨L', m', news', F', N', k⟩
theorem outK_next (F' : Fr g L' hp m') (N' : News g L' hp news') (k : Fr h₀ L hp m → News h₀ L hp news' → Q .none ⟨hp, gs, dr, tk, os⟩) : outK h₀ L m g Q .next ⟨hp, gs, dr, tk, os⟩ := ⟨L', m', news', F', N', k⟩
end
section
variable {prog : Program} {w : World} {A A₀ : Around} {s : Shared} {K : Frag} {base h₀ : Heap} {outer : List Env} {env : Env} {L : Addr} {m : Str → Option Value} {news : List (Addr × Obj)} {mg mb : Str → Option Value} {p : Program} {loose : List Str} {mean : ExcName → Option Value}
  {Q E : Value → Shared → Prop} {name qual : Str} {params : Arguments} {body : List Stmt} {scope : Scope} {dV kV doc pm cdv ct oc : Value} {an od : Option Addr} {osl : Array (Option Value)} {f : Addr}
theorem open1 {n1 : Str} {a1 : Value}
    (B : Below A₀ base outer h₀) (F : Fr h₀ L s.heap m) (X₀ : K.In h₀) (N : News h₀ L s.heap news) (T : Top p loose mean mg mb h₀) (hA : A.frames = some (env :: outer)) (hf : env.frame = some L) (hke : env.scope.kind = .function)
    (ho : K.lookup f = some ⟨oc, od, .func (fnOf name qual params body scope dV kV doc pm an cdv ct), osl⟩) (hcd : codeIn K cdv qual = true) (hroom : A.depth < recursionLimit)
    (hbind : BindsTo s (fnOf name qual params body scope dV kV doc pm an cdv ct) ⟨[a1], []⟩ [(n1, a1)]) (hloc : ∀ y ∈ [(n1, a1)], scope.names.lookup y.1 = some .local)
    (h : ∀ g L' h₁ tk, Fr h₀ L g m → Fr g L' h₁ (fun y => [(n1, a1)].lookup y) → News g L' h₁ news → Below A base (env :: outer) g → K.In g → Top p loose mean mg mb g →
      (let env' := envOf qual scope L' f cdv
       wpAny (model prog w) (A.deeper env') (execs body env') (outK h₀ L m g Q) (fun _ _ => False) { s with heap := h₁, toks := tk }))
    (hco : scope.isCoroutine = false) (hgen : scope.isGenerator = false) (hk : scope.kind = .function)
    (hcell : ∀ x ∈ scope.names, x.2 ≠ .cell) : wpAny (model prog w) A (call (.ref f) [a1]) Q E s :=
  wpAny_call (code_def (binds := [(n1, a1)]) B F X₀ N T hA hf hke ho hcd hroom hbind hloc (fun g L' h₁ FG F' N' B' X' T' => wpAny_mono (h g L' h₁ _ FG F' N' B' X' T') (fun fl s' ⟨L1, m1, n1, x1, x2, x3⟩ => ⟨L1, m1, n1, x1, x2, fun y1 y2 => x3 y1 y2⟩) (fun _ _ y => y.elim)) hco hgen hk hcell)
theorem open2 {n1 n2 : Str} {a1 a2 : Value}
    (B : Below A₀ base outer h₀) (F : Fr h₀ L s.heap m) (X₀ : K.In h₀) (N : News h₀ L s.heap news) (T : Top p loose mean mg mb h₀) (hA : A.frames = some (env :: outer)) (hf : env.frame = some L) (hke : env.scope.kind = .function)
    (ho : K.lookup f = some ⟨oc, od, .func (fnOf name qual params body scope dV kV doc pm an cdv ct), osl⟩) (hcd : codeIn K cdv qual = true) (hroom : A.depth < recursionLimit)
    (hbind : BindsTo s (fnOf name qual params body scope dV kV doc pm an cdv ct) ⟨[a1, a2], []⟩ [(n1, a1), (n2, a2)]) (hloc : ∀ y ∈ [(n1, a1), (n2, a2)], scope.names.lookup y.1 = some .local)
    (h : ∀ g L' h₁ tk, Fr h₀ L g m → Fr g L' h₁ (fun y => [(n2, a2), (n1, a1)].lookup y) → News g L' h₁ news → Below A base (env :: outer) g → K.In g → Top p loose mean mg mb g →
      (let env' := envOf qual scope L' f cdv
       wpAny (model prog w) (A.deeper env') (execs body env') (outK h₀ L m g Q) (fun _ _ => False) { s with heap := h₁, toks := tk }))
    (hco : scope.isCoroutine = false) (hgen : scope.isGenerator = false) (hk : scope.kind = .function)
    (hcell : ∀ x ∈ scope.names, x.2 ≠ .cell) : wpAny (model prog w) A (call (.ref f) [a1, a2]) Q E s :=
  wpAny_call (code_def (binds := [(n1, a1), (n2, a2)]) B F X₀ N T hA hf hke ho hcd hroom hbind hloc (fun g L' h₁ FG F' N' B' X' T' => wpAny_mono (h g L' h₁ _ FG F' N' B' X' T') (fun fl s' ⟨L1, m1, n1, x1, x2, x3⟩ => ⟨L1, m1, n1, x1, x2, fun y1 y2 => x3 y1 y2⟩) (fun _ _ y => y.elim)) hco hgen hk hcell)
theorem open3 {n1 n2 n3 : Str} {a1 a2 a3 : Value}
    (B : Below A₀ base outer h₀) (F : Fr h₀ L s.heap m) (X₀ : K.In h₀) (N : News h₀ L s.heap news) (T : Top p loose mean mg mb h₀) (hA : A.frames = some (env :: outer)) (hf : env.frame = some L) (hke : env.scope.kind = .function)
    (ho : K.lookup f = some ⟨oc, od, .func (fnOf name qual params body scope dV kV doc pm an cdv ct), osl⟩) (hcd : codeIn K cdv qual = true) (hroom : A.depth < recursionLimit)
    (hbind : BindsTo s (fnOf name qual params body scope dV kV doc pm an cdv ct) ⟨[a1, a2, a3], []⟩ [(n1, a1), (n2, a2), (n3, a3)]) (hloc : ∀ y ∈ [(n1, a1), (n2, a2), (n3, a3)], scope.names.lookup y.1 = some .local)
    (h : ∀ g L' h₁ tk, Fr h₀ L g m → Fr g L' h₁ (fun y => [(n3, a3), (n2, a2), (n1, a1)].lookup y) → News g L' h₁ news → Below A base (env :: outer) g → K.In g → Top p loose mean mg mb g →
      (let env' := envOf qual scope L' f cdv
       wpAny (model prog w) (A.deeper env') (execs body env') (outK h₀ L m g Q) (fun _ _ => False) { s with heap := h₁, toks := tk }))
    (hco : scope.isCoroutine = false) (hgen : scope.isGenerator = false) (hk : scope.kind = .function)
    (hcell : ∀ x ∈ scope.names, x.2 ≠ .cell) : wpAny (model prog w) A (call (.ref f) [a1, a2, a3]) Q E s :=
  wpAny_call (code_def (binds := [(n1, a1), (n2, a2), (n3, a3)]) B F X₀ N T hA hf hke ho hcd hroom hbind hloc (fun g L' h₁ FG F' N' B' X' T' => wpAny_mono (h g L' h₁ _ FG F' N' B' X' T') (fun fl s' ⟨L1, m1, n1, x1, x2, x3⟩ => ⟨L1, m1, n1, x1, x2, fun y1 y2 => x3 y1 y2⟩) (fun _ _ y => y.elim)) hco hgen hk hcell)
end
end
local macro_rules | `(tactic| walk_at "my out") => `(tactic| (first | (with_reducible refine' outK_ret ?k1 ?k2 ?_; (case k1 => k_asm); (case k2 => k_asm)) | (with_reducible refine' outK_next ?k1 ?k2 ?_; (case k1 => k_asm); (case k2 => k_asm))); k_whole; intro kF kN; ground_anew kF; (have kX := kFor kF (by k_asm)))
local macro_rules | `(tactic| walk_at "my opened") => `(tactic| ((case kA => exact rfl); (case kF => exact rfl); (case kK => exact rfl); (case k1 => k_asm); (case k2 => k_asm); (case k3 => k_asm); (case k4 => k_asm); (case k5 => k_asm); (case k6 => k_is); (case k7 => k_is); (case k8 => k_room); (case k9 => exact BindsTo.of_eq rfl); (case c5 => decide); (case kB => exact locs rfl); (case c2 => exact rfl); (case c3 => exact rfl); (case c4 => exact rfl); k_whole; intro g' L' h' tk' FG' F' N' B' X' T' env'; (try dsimp only)))
section
variable {w : World} {A A₀ : Around} {base g : Heap} {outer : List Env} {env : Env} {s : Shared} {p : Program} {loose : List Str} {mean : ExcName → Option Value} {mg mb : Str → Option Value}
  {R : Result → Shared → Prop} {Q E : Value → Shared → Prop} {L : Addr} {m : Str → Option Value} {news : List (Addr × Obj)}
theorem compL {M : Model} {cl : List (Str × Addr)} {scope : Scope} {h : Heap} {C : Addr} {m₂ : Str → Option Value} {x : Str} {v : Value} {pos : Pos} (F : Fr h C s.heap m₂) (hv : m₂ x = some v) (k : Q v s)
    (hk : (compEnvC scope cl C env).scope.kind = .function) (hx : (compEnvC scope cl C env).kindOf x = some .local) (hd : (x == ("__debug__" : Str)) = false) :
    wpAny M A (eval (.Name x pos) (compEnvC scope cl C env)) Q E s := wpAny_Name (wpAny_loadName_local hk hx F.ns hv k) hd
theorem compCell {M : Model} {cl : List (Str × Addr)} {scope : Scope} {h : Heap} {C c : Addr} {m₂ : Str → Option Value} {x : Str} {v : Value} {pos : Pos} {o : Obj} (F : Fr h C s.heap m₂) (hc : cl.lookup x = some c) (hm : h.get? c = some o) (ho : o.data = .cell (some v)) (k : Q v s)
    (hk : (compEnvC scope cl C env).scope.kind = .function) (hx : (compEnvC scope cl C env).kindOf x = some .cell) (hd : (x == ("__debug__" : Str)) = false) :
    wpAny M A (eval (.Name x pos) (compEnvC scope cl C env)) Q E s := wpAny_Name (wpAny_loadName_cell hk hx hc ⟨o, F.keep _ _ hm, ho⟩ k) hd
end
local macro_rules | `(tactic| walk_at "eval Name") => `(tactic| ((fail_if_success (fail_if_success (with_reducible show wpAny _ _ (eval (Expr.Name _ _) (compEnvC _ _ _ _)) _ _ _))); first | (refine compL (by assumption) (by first | assumption | rfl) ?_ (by first | assumption | rfl) (by first | assumption | rfl) (by decide)) | (refine compCell (by assumption) (by first | assumption | rfl) (by assumption) (by assumption) ?_ (by first | assumption | rfl) (by first | assumption | rfl) (by decide))))
section
variable {w : World} {A A₀ : Around} {base g : Heap} {outer : List Env} {env : Env} {s : Shared} {p : Program} {loose : List Str} {mean : ExcName → Option Value} {mg mb : Str → Option Value}
  {R : Result → Shared → Prop} {Q E : Value → Shared → Prop} {L : Addr} {m : Str → Option Value} {news : List (Addr × Obj)}
theorem beq_ne {x y : Str} (h : (x == y) = false) : x ≠ y := by rintro rfl; rw [beq_self_eq_true] at h; cases h
theorem keep_tok (s : Shared) (n : Nat) : PySem.Keeps s { s with toks := n } := ⟨_, _, rfl, fun _ _ e => e⟩
def keptBy (n : Int) (r : Bool × Int) : Bool := !r.1 && decide (r.2 ≤ n)
theorem keptBy_not {n k : Int} {b : Bool} (h : (rn b == Str.ofString "y") = false) : false = keptBy n (b, k) := by
  cases b
  · exact absurd h (by decide +kernel)
  · rfl
theorem keptBy_lt {n k : Int} {b : Bool} (h : ¬ k ≤ n) : false = keptBy n (b, k) := by
  unfold keptBy
  rw [decide_eq_false h, Bool.and_false]
theorem keptBy_is {n k : Int} {b : Bool} (h : (rn b == Str.ofString "y") = true) (h' : k ≤ n) : true = keptBy n (b, k) := by
  cases b
  · unfold keptBy; rw [decide_eq_true h']; rfl
  · exact absurd h (by decide +kernel)
theorem kept_test {A : Around} {scope : Scope} {cl : List (Str × Addr)} {C c : Addr} {env : Env} {h : Heap} {o : Obj} {live : Int} {v : Tok} {a : Addr} {b : Bool} {k : Int} {t1 t2 : Tok} {s₂ : Shared} {m₂ : Str → Option Value} {E' : Value → Shared → Prop} {p1 p2 p3 p4 p5 p6 p7 p8 p9 p10 p11 : Pos}
    (hk : (compEnvC scope cl C env).scope.kind = .function) (hx : (compEnvC scope cl C env).kindOf (Str.ofString "one") = some .local) (hc : (compEnvC scope cl C env).kindOf (Str.ofString "live_now") = some .cell)
    (hcl : cl.lookup (Str.ofString "live_now") = some c) (hcell : h.get? c = some o) (ho : o.data = .cell (some (.int live v))) (htup : IsTup h a [.str (rn b) t1, .int k t2].toArray)
    (F : Fr h C s₂.heap m₂) (hone : m₂ (Str.ofString "one") = some (.ref a)) (hu : A.units + 64 < cLine) :
    wpAny (MM w) A (isTrue (Expr.BoolOp .And [((Expr.Name (Str.ofString "one") p1).Subscript (.Constant (.int 0) 0 p2) p3).Compare [.Eq] [.Constant (.str (Str.ofString "y")) 0 p4] p5,
        ((Expr.Name (Str.ofString "one") p6).Subscript (.Constant (.int 1) 0 p7) p8).Compare [.LtE] [.Name (Str.ofString "live_now") p9] p10] p11) (compEnvC scope cl C env)
      (eval (Expr.BoolOp .And [((Expr.Name (Str.ofString "one") p1).Subscript (.Constant (.int 0) 0 p2) p3).Compare [.Eq] [.Constant (.str (Str.ofString "y")) 0 p4] p5,
        ((Expr.Name (Str.ofString "one") p6).Subscript (.Constant (.int 1) 0 p7) p8).Compare [.LtE] [.Name (Str.ofString "live_now") p9] p10] p11) (compEnvC scope cl C env)))
      (fun ok s₃ => ok = keptBy live (b, k) ∧ PySem.Keeps s₂ s₃) E' s₂ := by
  (repeat' (walk_at "my step"))
  all_goals first
    | exact keep_tok _ _
    | exact keptBy_is (by assumption) (by assumption)
    | exact keptBy_lt (by assumption)
    | exact keptBy_not (by assumption)
def lawCalled (rs : List (Bool × Int)) (room size live : Int) : Str :=
  if lackOf rs size = Str.ofString "" ∧ room < 0 then Str.ofString "a call without an environment"
  else if lackOf rs size = Str.ofString "" ∧ live > room then Str.ofString "more live slots than the environment has" else lackOf rs size
theorem lawcalled_spec {bk fl : Addr} {ob : Obj} {vs : List Value} {n : Nat} {rs : List (Bool × Int)} {room : Int} {t u v : Tok} {e d : Bool} {size live : Int}
    (D : Rdy A base outer s.heap [(bk, ob), (fl, listOf vs.toArray n)]) (C : Wd w base p loose mean mg mb) (hd : A.depth ≤ 570) (hu : A.units ≤ 1700) (hne : bk ≠ fl) (hlen : vs.length ≤ 100)
    (hob : ob.IsDictOf (strKind PP w) (bkK fl room t e d)) (lo : (bk == sysModules) = false) (hv : RegsAre s.heap vs rs) (hsz : 0 ≤ size ∧ size < 3) (hl : 0 ≤ live ∧ live < 3) (hroom : -1 ≤ room ∧ room ≤ 3) (nt : NT s.heap [bk, fl])
    (z : ∀ t' h' tk' ob' fl' vs' n', ob'.IsDictOf (strKind PP w) (bkK fl' room t e d) → (∀ H, RegsAre H vs rs → RegsAre H vs' (rs.filter (keptBy live))) → vs'.length ≤ vs.length → Keeps [bk] s.heap h' → s.heap.get? fl' = none → h'.get? bk = some ob' → h'.get? fl' = some (listOf vs'.toArray n') →
      R (.ok (.ret (.str (lawCalled rs room size live) t'))) { s with heap := h', toks := tk' }) :
    codeAny (MM w) A (.call (.ref 409) ⟨[.ref bk, .int size u, .int live v], []⟩) R s := by
  refine' enterC 570 1700 (binds := [(Str.ofString "book", .ref bk), (Str.ofString "size_of", .int size u), (Str.ofString "live_now", .int live v)]) D C.X C.T hd hu ?k6 ?k7 ?k8 ?k9 ?kB ?kD ?_ ?c2 ?c3 ?c4
  (((case k6 => k_is); (case k7 => k_is); (case k8 => decide); (case k9 => exact BindsTo.of_eq rfl); (case kB => exact rfl); (case kD => decide +kernel); (case c2 => exact rfl); (case c3 => exact rfl); (case c4 => exact rfl)))
  intro g L h₁ tk cells eL hg hgs F N Y l1 B X T
  have at0 := D.at_
  clear D
  k_lt l1
  k_cells Y
  (try simp only [List.cons_append, List.nil_append] at N)
  have hv := hv.keep hg nt
  have hne2 : @Ne Nat fl bk := hne.symm
  have zz : ∀ x t' h' tk' ob' fl' vs' n', x = lawCalled rs room size live → Obj.IsDictOf (strKind PP w) ob' (bkK fl' room t e d) → (∀ H, RegsAre H vs rs → RegsAre H vs' (rs.filter (keptBy live))) → vs'.length ≤ vs.length → Keeps [bk] s.heap h' → s.heap.get? fl' = none → h'.get? bk = some ob' → h'.get? fl' = some (listOf vs'.toArray n') →
      R (.ok (.ret (.str x t'))) { s with heap := h', toks := tk' } := fun x t' h' tk' ob' fl' vs' n' e => e ▸ z t' h' tk' ob' fl' vs' n'
  (repeat' (walk_at "my step"))
  refine lawlack_use (by assumption) (by assumption) (by assumption) C rfl rfl rfl rfl (Nat.le_of_ble_eq_true rfl) (Nat.le_of_ble_eq_true rfl) hne hob lo (by k_mem) (by k_mem) hv hsz ?_
  intro t' h' tk' F' N'
  k_sweep
  (repeat' (walk_at "my step"))
  all_goals (refine' comp_filter (g := g) (L := L) (pr := keptBy live) rfl rfl (by decide) rfl (by decide) rfl (by decide) ?_ (fun _ => rfl); (repeat' (walk_at "my step")); refine FiltAt.mk (by assumption) (by assumption) (by k_mem) hv (by omega) ?_ ?_)
  all_goals first
    | (intro C' a b k s₂ m₂ E' (hr : IsRg g a b k) _ F₂ hone
       obtain ⟨t1, t2, htup⟩ := hr.tup
       have htup' := Fr.tup (h₀ := g) (L := L) (by assumption) htup
       have hcell := News.get (h₀ := g) (L := L) (by assumption) (List.mem_cons_self ..)
       exact kept_test rfl rfl rfl rfl hcell (by assumption) htup' F₂ hone (Nat.le_of_ble_eq_true rfl))
    | (intro D ys n' h' tk' F₂ N₂ (ne : ∀ p ∈ _, Prod.fst p ≠ D) hys hle
       (have ne := allNe_of ne)
       simp only [AllNe, and_true] at ne
       (have hfD := freshOf hg (N₂ _ (.head _)).2.2 (by
          intro q
          rcases List.mem_cons.mp q with q | q
          · exact ne.2.1 q.symm
          · exact ne.2.2 (List.mem_singleton.mp q).symm))
       k_sweep
       (repeat' (walk_at "my step"))
       refine zz _ _ _ _ _ D ys n' ?_ ?_ hys hle (keepsM at0 hg (by assumption) (by assumption) [bk] ?_) hfD (News.get (by assumption) (.tail _ (.tail _ (.head _)))) (News.get (by assumption) (.head _))
       · first
         | (rw [lawCalled, if_pos ⟨beq_iff_eq.mp (by assumption), by assumption⟩]; done)
         | (rw [lawCalled, if_neg (fun q => absurd q.2 (by omega)), if_pos ⟨beq_iff_eq.mp (by assumption), by omega⟩]; done)
         | (rw [lawCalled, if_neg (fun q => absurd q.2 (by omega)), if_neg (fun q => absurd q.2 (by omega))]; done)
         | (have ha : (lackOf rs size == Str.ofString "") = false := (by assumption); rw [lawCalled, if_neg (fun q => beq_ne ha q.1), if_neg (fun q => beq_ne ha q.1)]; done)
       · assumption
       · intro p hp
         rcases List.mem_cons.mp hp with rfl | hp
         · exact .inl (.head _)
         · rw [List.mem_singleton.mp hp]; exact .inr (.tail _ (.tail _ (.tail _ (.head _)))))

theorem lawcalled_use {bk fl : Addr} {ob : Obj} {vs : List Value} {n : Nat} {rs : List (Bool × Int)} {room : Int} {t u v : Tok} {e d : Bool} {size live : Int} {nf : Obj → List (Addr × Obj)}
    (B : Below A₀ base outer g) (F : Fr g L s.heap m) (N : News g L s.heap news) (C : Wd w base p loose mean mg mb)
    (hh : A.handled = none) (hA : A.frames = some (env :: outer)) (hf : env.frame = some L) (hke : env.scope.kind = .function)
    (hd : A.depth ≤ 570) (hu : A.units ≤ 1700) (hne : bk ≠ fl) (hlen : vs.length ≤ 100) (hob : ob.IsDictOf (strKind PP w) (bkK fl room t e d)) (lo : (bk == sysModules) = false)
    (U : ∀ o', Upd bk ob o' news (nf o')) (m2 : (fl, listOf vs.toArray n) ∈ news) (hv : RegsAre g vs rs) (hsz : 0 ≤ size ∧ size < 3) (hl : 0 ≤ live ∧ live < 3) (hroom : -1 ≤ room ∧ room ≤ 3)
    (z : ∀ t' h' tk' ob' fl' vs' n', ob'.IsDictOf (strKind PP w) (bkK fl' room t e d) → (∀ H, RegsAre H vs rs → RegsAre H vs' (rs.filter (keptBy live))) → vs'.length ≤ vs.length → Fr g L h' m → News g L h' ((fl', listOf vs'.toArray n') :: nf ob') → (∀ p ∈ news, p.1 ≠ fl') →
      Q (.str (lawCalled rs room size live) t') { s with heap := h', toks := tk' }) :
    wpAny (MM w) A (call (.ref 409) [.ref bk, .int size u, .int live v]) Q E s := by
  have m1 := updMem (U ob)
  have hs : ∀ p ∈ [(bk, ob), (fl, listOf vs.toArray n)], p ∈ news := by
    intro p hp
    rcases List.mem_cons.mp hp with rfl | hp
    · exact m1
    · rw [List.mem_singleton.mp hp]; exact m2
  have N1 := newsSub N hs
  have N2 : News g L s.heap [(bk, ob)] := newsSub N fun p hp => by rw [List.mem_singleton.mp hp]; exact m1
  have K0 : Keeps [] g s.heap := fun b o e _ => F.keep b o e
  have nt0 : NT g [] := fun _ q => nomatch q
  have nt : NT s.heap [bk, fl] := nt_of (mods := [(bk, ob), (fl, listOf vs.toArray n)]) (fun p hp => (N1 p hp).1) (by
    intro p hp
    rcases List.mem_cons.mp hp with rfl | hp
    · exact dict_cls hob
    · rw [List.mem_singleton.mp hp]; show Value.type "list" ≠ Value.type "tuple"; decide)
  refine wpAny_call (lawcalled_spec (Rdy.nest B F N1 hh hA hf hke) C hd hu hne hlen hob lo (hv.keep K0 nt0) hsz hl hroom nt fun t' h' tk' ob' fl' vs' n' h1 h2 h3 hK hn hq1 hq2 => ?_)
  have hK1 : Keeps [bk] s.heap h' := hK
  refine z t' h' tk' ob' fl' vs' n' h1 h2 h3 (frAfter F N2 hK1) (newsCons (newsAfter1 N (U _) hK1 hq1) hq2 (newNe F hn) (newNone F hn)) fun p hp e => ?_
  have := (N p hp).1
  rw [e, hn] at this; cases this
end
section
variable {w : World} {A A₀ : Around} {base g : Heap} {outer : List Env} {env : Env} {s : Shared} {p : Program} {loose : List Str} {mean : ExcName → Option Value} {mg mb : Str → Option Value}
  {R : Result → Shared → Prop} {Q E : Value → Shared → Prop} {L : Addr} {m : Str → Option Value} {news : List (Addr × Obj)}
theorem unrPost_mono {L : Addr} {s₁ : Shared} {I : Addr} {it : Obj} {r r' : (Str → Option Value) → List (Addr × Obj) → Prop} {Q : Flow → Shared → Prop} (h : ∀ m n, r m n → r' m n) {f : Flow} {s₂ : Shared} (x : UnrPost g L s₁ I it r Q f s₂) : UnrPost g L s₁ I it r' Q f s₂ := by
  have end' : UnrEnd g L s₁ I it r s₂ → UnrEnd g L s₁ I it r' s₂ := fun ⟨h', tk, m', n', a, b, c, d, e⟩ => ⟨h', tk, m', n', a, b, c, d, h _ _ e⟩
  cases f with
  | ret v => exact x
  | brk => exact x
  | next => exact end' x
  | cont => exact end' x
/-- a loop over a range by what holds between the turns -/
theorem rangeInv {prog : Program} {A : Around} {E : Value → Shared → Prop} {env : Env} {x : Str} {body : List Stmt} {Q : Flow → Shared → Prop} {s : Shared} {I : Addr} {a : Int} {n : Nat} (Inv : Nat → (Str → Option Value) → List (Addr × Obj) → Prop)
    (hstep : ∀ i m news, i < n → Inv i m news → ∀ t h tk, Fr g env.locals h (fun y => if y = x then some (.int (a + (i : Int)) t) else m y) → News g env.locals h ((I, itR (a + ((i + 1 : Nat) : Int)) ((n : Int) - ((i + 1 : Nat) : Int))) :: news) →
      wpAny (model prog w) A (execs body env) (UnrPost g env.locals { s with heap := h, toks := tk } I (itR (a + ((i + 1 : Nat) : Int)) ((n : Int) - ((i + 1 : Nat) : Int))) (Inv (i + 1)) Q) E { s with heap := h, toks := tk })
    (hend : ∀ m news, Inv n m news → ∀ h tk, Fr g env.locals h m → News g env.locals h news → Q .next { s with heap := h, toks := tk }) :
    ∀ (k i : Nat) (m : Str → Option Value) (news : List (Addr × Obj)), i + k = n → Inv i m news → RangeRest prog w A E g env x body Q s I a n k i m news
  | 0, i, m, news, e, h => RangeRest.zero fun h' tk F N => hend m news (by rw [← e]; exact h) h' tk F N
  | k + 1, i, m, news, e, h => RangeRest.succ fun t h' tk F N => wpAny_mono (hstep i m news (by omega) h t h' tk F N) (fun f s₂ q => unrPost_mono (fun m' n' z => rangeInv Inv hstep hend k (i + 1) m' n' (by omega) z) q) fun _ _ e => e
/-- a loop over a list of the call's own by what holds between the turns -/
theorem listInv {prog : Program} {A : Around} {E : Value → Shared → Prop} {env : Env} {x : Str} {body : List Stmt} {Q : Flow → Shared → Prop} {s : Shared} {I : Addr} {lp : Addr × Obj} (Inv : List Value → (Str → Option Value) → List (Addr × Obj) → Prop)
    (hstep : ∀ v r m news, Inv (v :: r) m news → ∀ (it : Obj) h tk, it.cls = .type "list_iterator" → Fr g env.locals h (fun y => if y = x then some v else m y) → News g env.locals h ((I, it) :: news) →
      wpAny (model prog w) A (execs body env) (UnrPost g env.locals { s with heap := h, toks := tk } I it (fun m' n' => lp ∈ n' ∧ Inv r m' n') Q) E { s with heap := h, toks := tk })
    (hend : ∀ m news, Inv [] m news → ∀ h tk, Fr g env.locals h m → News g env.locals h news → Q .next { s with heap := h, toks := tk }) :
    ∀ (vs : List Value) (m : Str → Option Value) (news : List (Addr × Obj)), Inv vs m news → ListRest prog w A E g env x body Q s I lp vs m news
  | [], m, news, h => ListRest.zero fun h' tk F N => hend m news h h' tk F N
  | v :: r, m, news, h => ListRest.succ fun it h' tk hc F N => wpAny_mono (hstep v r m news h it h' tk hc F N) (fun f s₂ q => unrPost_mono (fun m' n' z => ⟨z.1, listInv Inv hstep hend r m' n' z.2⟩) q) fun _ _ e => e
end
section
section
variable {w : World} {A A₀ : Around} {base g : Heap} {outer : List Env} {env : Env} {s : Shared} {p : Program} {loose : List Str} {mean : ExcName → Option Value} {mg mb : Str → Option Value}
  {R : Result → Shared → Prop} {Q E : Value → Shared → Prop} {L : Addr} {m : Str → Option Value} {news : List (Addr × Obj)}
theorem ints_snoc {vs : List Value} {ns : List Int} (h : IntsAre vs ns) (n : Int) (t : Tok) : IntsAre (vs ++ [.int n t]) (ns ++ [n]) := by
  induction h with
  | nil => exact .cons n t .nil
  | cons a b _ ih => exact .cons a b ih
theorem map3 {m m' : Str → Option Value} (h1 : m (Str.ofString "lap") = m' (Str.ofString "lap")) (h2 : m (Str.ofString "rest_now") = m' (Str.ofString "rest_now")) (h3 : m (Str.ofString "cell") = m' (Str.ofString "cell"))
    (h : ∀ y, y ≠ Str.ofString "lap" → y ≠ Str.ofString "rest_now" → y ≠ Str.ofString "cell" → m y = m' y) : m = m' := by
  funext y
  by_cases e1 : y = Str.ofString "lap"
  · rw [e1, h1]
  · by_cases e2 : y = Str.ofString "rest_now"
    · rw [e2, h2]
    · by_cases e3 : y = Str.ofString "cell"
      · rw [e3, h3]
      · exact h y e1 e2 e3
theorem end_in {L I2 : Addr} {o2 : Obj} {m : Str → Option Value} {h : Heap} {rest : (Str → Option Value) → List (Addr × Obj) → Prop} {s₁ : Shared} {tk : Nat} {p1 p2 p3 : Addr × Obj} (F : Fr g L h m) (N : News g L h [(I2, o2), p1, p2, p3]) (h1 : p1.1 ≠ I2) (h2 : p2.1 ≠ I2) (h3 : p3.1 ≠ I2) (r : rest m [p1, p2, p3]) :
    UnrEnd g L s₁ I2 o2 rest { s₁ with heap := h, toks := tk } := UnrEnd.intro F N [p1, p2, p3] (fun _ hp => hp) (by
      refine allC ?_ (allC ?_ (allC ?_ (allE))) <;> assumption) r
theorem end_out {L I I2 : Addr} {o2 it : Obj} {m : Str → Option Value} {h : Heap} {rest : (Str → Option Value) → List (Addr × Obj) → Prop} {s₁ : Shared} {tk : Nat} {p2 p3 : Addr × Obj} (F : Fr g L h m) (N : News g L h [(I2, o2), (I, it), p2, p3]) (h2 : p2.1 ≠ I) (h3 : p3.1 ≠ I) (r : rest m [p2, p3]) :
    UnrEnd g L s₁ I it rest { s₁ with heap := h, toks := tk } := UnrEnd.intro F N [p2, p3] (fun _ hp => .tail _ hp) (by
      refine allC ?_ (allC ?_ (allE)) <;> assumption) r
theorem end_out3 {L I : Addr} {it : Obj} {m : Str → Option Value} {h : Heap} {rest : (Str → Option Value) → List (Addr × Obj) → Prop} {s₁ : Shared} {tk : Nat} {p2 p3 : Addr × Obj} (F : Fr g L h m) (N : News g L h [(I, it), p2, p3]) (h2 : p2.1 ≠ I) (h3 : p3.1 ≠ I) (r : rest m [p2, p3]) :
    UnrEnd g L s₁ I it rest { s₁ with heap := h, toks := tk } := UnrEnd.intro F N [p2, p3] (fun _ hp => hp) (by
      refine allC ?_ (allC ?_ (allE)) <;> assumption) r
end
local macro_rules | `(tactic| walk_at "exec For Name Subscript cons nil") => `(tactic| ((rename Fr _ _ _ _ => lF'); (with_unfolding_all refine' For_invVF lF' ?k1 ?k2 ?_; (case k1 => exact rfl); (case k2 => exact rfl))))
section
variable {w : World} {A A₀ : Around} {base g : Heap} {outer : List Env} {env : Env} {s : Shared} {p : Program} {loose : List Str} {mean : ExcName → Option Value} {mg mb : Str → Option Value}
  {R : Result → Shared → Prop} {Q E : Value → Shared → Prop} {L : Addr} {m : Str → Option Value} {news : List (Addr × Obj)}
inductive DigI (q sl S1 : Addr) (ws : List Value) (rs : List Value) (m' : Str → Option Value) (news' : List (Addr × Obj)) : Prop where
  | mk (lv rv cv : Option Value) (its : List Value) (qn : Nat) (qns ms : List Int) (e0 : m' = (fun y => if y = Str.ofString "lap" then lv else if y = Str.ofString "rest_now" then rv else if y = Str.ofString "cell" then cv else if y = Str.ofString "queue" then some (.ref q) else List.lookup y [(Str.ofString "script", Value.ref sl)].reverse)) (e1 : news' = [(S1, listOf ws.toArray 0), (q, listOf (its : List Value).toArray qn)]) (e2 : IntsAre its qns) (e3 : (∀ v ∈ qns, 0 ≤ v ∧ v < 900)) (e4 : qns.length + 12 * rs.length ≤ 720) (e5 : IntsAre rs ms)
inductive DigJ (q sl S1 I : Addr) (it : Obj) (ws : List Value) (n1 : Int) (t1 : Tok) (qns : List Int) (i : Nat) (m' : Str → Option Value) (news' : List (Addr × Obj)) : Prop where
  | mk (lv : Option Value) (rn : Int) (rt : Tok) (its' : List Value) (qn' : Nat) (qns' : List Int) (e0 : m' = (fun y => if y = Str.ofString "lap" then lv else if y = Str.ofString "rest_now" then some (.int rn rt) else if y = Str.ofString "cell" then some (.int n1 t1) else if y = Str.ofString "queue" then some (.ref q) else List.lookup y [(Str.ofString "script", Value.ref sl)].reverse)) (e1 : news' = [(I, it), (S1, listOf ws.toArray 0), (q, listOf (its' : List Value).toArray qn')]) (e2 : IntsAre its' qns') (e3 : (∀ v ∈ qns', 0 ≤ v ∧ v < 900)) (e4 : qns'.length ≤ qns.length + i) (e5 : 0 ≤ rn)
theorem digits_spec {sl : Addr} {vs : List Value} {ns : List Int} (D : Rdy A base outer s.heap []) (C : Wd w base p loose mean mg mb) (hd : A.depth ≤ 580) (hu : A.units ≤ 1800) (hl : s.heap.IsList sl vs.toArray) (hi : IntsAre vs ns) (hn63 : ns.length ≤ 63)
    (z : ∀ a o' h' tk', QOk o' → Keeps [] s.heap h' → h'.get? a = some o' → s.heap.get? a = none → R (.ok (.ret (.ref a))) { s with heap := h', toks := tk' }) :
    codeAny (MM w) A (.call (.ref 355) ⟨[.ref sl], []⟩) R s := by
  refine' enter 580 1800 (binds := [(Str.ofString "script", .ref sl)]) D C.X C.T hd hu ?k6 ?k7 ?k8 ?k9 ?kB ?_ ?c2 ?c3 ?c4 ?c5
  walk_at "my enter"
  intro g L h₁ tk eL hg hgs F N l1 B X' T' env1
  have at0 := D.at_
  clear D l1
  replace hl : g.IsList sl vs.toArray := by
    obtain ⟨o₁, e, r⟩ := hl
    exact ⟨o₁, hg _ _ e (fun q => nomatch q), r⟩
  repeat' (first | ((fail_if_success (with_reducible show wpAny _ _ (pyIter _) _ _ _)); walk_at "my step"))
  refine' kmk_slice_ints (s := ⟨_, _, _, _, _⟩) (vs := vs) ?kF ?kN ?kl ?kp ?kq hi ?km ?kc ?_ ?ks ?kt ?kz
  case kF => assumption
  case kN => assumption
  case kl => exact stays_list (Fr.keep (by assumption)) hl
  case kp => kmk_part
  case kq => kmk_part
  case km => exact kmk_upto hi (by decide)
  case kc => exact rfl
  case ks => with_unfolding_all rfl
  case kt => kmk_pure
  case kz => rw [List.size_toArray, sizeLine_eq, hi.length]; omega
  intro S1 ws h' F' N' l2 hw hc hle
  k_lt l2
  dsimp only
  k_sweep
  obtain ⟨q, F', N', l2⟩ : ∃ q' : Addr, Fr g L h' (fun y => if y = Str.ofString "queue" then some (.ref q') else List.lookup y [(Str.ofString "script", Value.ref sl)].reverse) ∧ News g L h' [(S1, listOf ws.toArray 0), (q', listOf (#[] : Array Value) 0)] ∧ @LT.lt Nat _ q' S1 := ⟨_, F', N', l2⟩
  have hlt60 : (ns.take (Int.toNat 60)).length ≤ 60 := by rw [List.length_take]; exact Nat.min_le_left _ _
  refine iter_listUnr (ax := S1) (lo := listOf ws.toArray 0) (vs := ws) rfl F' N' (.head _) rfl rfl ?_
  intro I lI
  have lI1 : S1 < I := lI (S1, listOf ws.toArray 0) (by k_mem)
  have lI2 : q < I := lI (q, _) (by k_mem)
  refine listInv (fun rs m' news' => DigI q sl S1 ws rs m' news') ?_ ?_ ws _ _ ?_
  · rintro v r m' news' ⟨lv, rv, cv, its, qn, qns, ms, rfl, rfl, hq, hqb, hql, hms⟩ it hp tkp hit FP NP
    cases hms with
    | cons n1 t1 hms' =>
    have lIne : @Ne Nat I S1 := Ne.symm (Nat.ne_of_lt lI1)
    have lIne2 : @Ne Nat I q := Ne.symm (Nat.ne_of_lt lI2)
    have l2ne : @Ne Nat q S1 := Nat.ne_of_lt l2
    have l2ne' : @Ne Nat S1 q := Ne.symm (Nat.ne_of_lt l2)
    repeat' (first | ((fail_if_success (with_reducible show wpAny _ _ (call (Value.type "range") _) _ _ _)); walk_at "my step"))
    all_goals
      refine range1_rows (by assumption) (by assumption) ?_
      intro hr tkr r1 r2 r3 hR FR NR upR
      try dsimp only
      k_sweep
      refine iter_rangeUnr (n := 12) rfl hR (by decide) (by decide) FR NR ?_
      intro I2 lI2'
      have j1 : I < I2 := lI2' (I, it) (by k_mem)
      have j2 : S1 < I2 := lI2' (S1, listOf ws.toArray 0) (by k_mem)
      have j3 : q < I2 := lI2' (q, listOf its.toArray qn) (by k_mem)
      have j4 : @Ne Nat I2 q := Ne.symm (Nat.ne_of_lt j3)
      refine rangeInv (fun i m' news' => DigJ q sl S1 I it ws n1 t1 qns i m' news') ?_ ?_ 12 0 _ _ (by omega) ?_
      · rintro i m' news' hin ⟨lv, rn, rt, its', qn', qns', rfl, rfl, hq', hqb', hql', hrn⟩ tp hp2 tkp2 FP2 NP2
        have hits : its'.length ≤ 800 := by rw [hq'.length]; simp only [List.length_cons] at hql; omega
        repeat' (first | ((fail_if_success (with_reducible show UnrEnd _ _ _ _ _ _ _)); (fail_if_success (with_reducible show UnrPost _ _ _ _ _ _ _ _ _)); walk_at "my step"))
        all_goals
          have e1 : 0 ≤ rn.fmod 900 ∧ rn.fmod 900 < 900 := by rw [Int.fmod_eq_emod_of_nonneg _ (by decide)]; omega
          have e2 : 0 ≤ rn.fdiv 900 := by rw [Int.fdiv_eq_ediv_of_nonneg _ (by decide)]; omega
          have e3 : ∀ v ∈ qns' ++ [rn.fmod 900], 0 ≤ v ∧ v < 900 := by
            intro v hv
            rcases List.mem_append.mp hv with hv | hv
            · exact hqb' v hv
            · rw [List.mem_singleton.mp hv]; exact e1
          have e4 : (qns' ++ [rn.fmod 900]).length ≤ qns.length + (i + 1) := by rw [List.length_append]; simp only [List.length_cons, List.length_nil]; omega
        · dsimp only [UnrPost]
          (repeat' (first | ((fail_if_success (with_reducible show UnrEnd _ _ _ _ _ _ _)); (fail_if_success (with_reducible show UnrPost _ _ _ _ _ _ _ _ _)); walk_at "my step")))
          refine' end_out (by assumption) (by assumption) (Nat.ne_of_lt lI1) (Nat.ne_of_lt lI2) ⟨.head _, _, _, _, its' ++ [.int (rn.fmod 900) (tkp2 + 1)], qn' + 1, qns' ++ [rn.fmod 900], _, ?map, ?led, ints_snoc hq' (rn.fmod 900) (tkp2 + 1), e3, ?len, hms'⟩
          case map => ((refine map3 ?a1 ?a2 ?a3 ?a4; (case a1 => exact rfl); (case a2 => exact rfl); (case a3 => exact rfl); (case a4 => (intro y_m h1_m h2_m h3_m; simp [h1_m, h2_m, h3_m]))))
          case led => rw [List.push_toArray]
          case len => simp only [List.length_cons] at hql; omega
        · refine' end_in (by assumption) (by assumption) (Nat.ne_of_lt j1) (Nat.ne_of_lt j2) (Nat.ne_of_lt j3) ⟨_, rn.fdiv 900, _, its' ++ [.int (rn.fmod 900) (tkp2 + 1)], qn' + 1, qns' ++ [rn.fmod 900], ?map, ?led, ints_snoc hq' (rn.fmod 900) (tkp2 + 1), e3, e4, e2⟩
          case map => ((refine map3 ?a1 ?a2 ?a3 ?a4; (case a1 => exact rfl); (case a2 => exact rfl); (case a3 => exact rfl); (case a4 => (intro y_m h1_m h2_m h3_m; simp [h1_m, h2_m, h3_m]))))
          case led => rw [List.push_toArray]
      · rintro m' news' ⟨lv, rn, rt, its', qn', qns', rfl, rfl, hq', hqb', hql', hrn⟩ hp2 tkp2 FP2 NP2
        try dsimp only
        (repeat' (first | ((fail_if_success (with_reducible show UnrEnd _ _ _ _ _ _ _)); (fail_if_success (with_reducible show UnrPost _ _ _ _ _ _ _ _ _)); walk_at "my step")))
        refine' end_out3 (by assumption) (by assumption) (Nat.ne_of_lt lI1) (Nat.ne_of_lt lI2) ⟨.head _, _, _, _, its', qn', qns', _, ?map, rfl, hq', hqb', ?len, hms'⟩
        case map => ((refine map3 ?a1 ?a2 ?a3 ?a4; (case a1 => exact rfl); (case a2 => exact rfl); (case a3 => exact rfl); (case a4 => (intro y_m h1_m h2_m h3_m; simp [h1_m, h2_m, h3_m]))))
        case len => simp only [List.length_cons] at hql; omega
      · refine' ⟨_, _, _, its, qn, qns, ?map, rfl, hq, hqb, Nat.le_refl _, ?nn⟩
        case map => ((refine map3 ?a1 ?a2 ?a3 ?a4; (case a1 => exact rfl); (case a2 => exact rfl); (case a3 => exact rfl); (case a4 => (intro y_m h1_m h2_m h3_m; simp [h1_m, h2_m, h3_m]))))
        case nn => omega
  · rintro m' news' ⟨lv, rv, cv, its, qn, qns, ms, rfl, rfl, hq, hqb, hql, hms⟩ hp tkp FP NP
    try dsimp only
    repeat' (first | ((fail_if_success (with_reducible show wpAny _ _ (subscriptTail _ _ _ _) _ _ _)); walk_at "my step"))
    refine' kmk_slice_ints (s := ⟨_, _, _, _, _⟩) (vs := its) ?kF ?kN ?kl ?kp ?kq hq ?km ?kc ?_ ?ks ?kt ?kz
    case kF => assumption
    case kN => assumption
    case kl => exact News.isList (by assumption) (by k_mem)
    case kp => kmk_part
    case kq => kmk_part
    case km => exact kmk_upto hq (by decide)
    case kc => exact rfl
    case ks => with_unfolding_all rfl
    case kt => kmk_pure
    case kz => rw [List.size_toArray, sizeLine_eq, hq.length]; omega
    intro S2 ws2 h2 F2 N2 l3 hw2 hc2 hle2
    k_lt l3
    dsimp only
    k_sweep
    have hlt150 : (qns.take (Int.toNat 150)).length ≤ 150 := by rw [List.length_take]; exact Nat.min_le_left _ _
    repeat' (first | ((fail_if_success (with_reducible show wpAny _ _ (call (Value.builtin "list.reverse") _) _ _ _)); walk_at "my step"))
    have l4 : @Ne Nat S1 S2 := Nat.ne_of_lt l3.1
    have l5 : @Ne Nat q S2 := Nat.ne_of_lt l3.2
    refine kl_reverse (l := ws2.reverse) (by assumption) (by assumption) rfl (by k_upd) (by rw [List.toList_toArray, hw2.length, sizeLine_eq]; omega) ?_
    intro h3 F3 N3
    try dsimp only at N3
    try dsimp only
    k_sweep
    (repeat' (walk_at "my step"))
    refine z S2 (listOf ws2.reverse.toArray 0) _ _ ⟨ws2.reverse, 0, _, rfl, PyProof.Rows.IntsAre.reverse hw2, ?_, ?_⟩ (fun b o e _ => F3.keep b o (hg b o e (fun q => nomatch q))) (N3.get (.head _)) ?_
    · intro v hv
      exact hqb v (List.mem_of_mem_take (List.mem_reverse.mp hv))
    · rw [List.length_reverse]; exact hlt150
    · exact freshOf hg (N3 _ (.head _)).2.2 (fun q => nomatch q)
  · refine ⟨none, none, none, [], 0, [], _, ?_, rfl, IntsAre.nil, fun _ q => (nomatch q), ?_, hw⟩
    · funext y
      by_cases h1 : y = Str.ofString "lap"
      · subst h1; exact rfl
      · by_cases h2 : y = Str.ofString "rest_now"
        · subst h2; exact rfl
        · by_cases h3 : y = Str.ofString "cell"
          · subst h3; exact rfl
          · simp [h1, h2, h3]
    · have := IntsAre.length hw
      simp only [List.length_nil]; omega
end
end
section
variable {w : World} {A A₀ : Around} {base g : Heap} {outer : List Env} {env : Env} {s : Shared} {p : Program} {loose : List Str} {mean : ExcName → Option Value} {mg mb : Str → Option Value}
  {R : Result → Shared → Prop} {Q E : Value → Shared → Prop} {L : Addr} {m : Str → Option Value} {news : List (Addr × Obj)}
abbrev Reg := Bool × Int
def lawMoved (rs : List Reg) (room : Int) : Ins → List Reg × Str
  | .gvar b k j => if lawReading rs room true j = Str.ofString "" then lawWriting rs room b k else (rs, lawReading rs room true j)
  | .gval b k j => (rs, if lawReading rs room true j = Str.ofString "" then lawReading rs room b k else lawReading rs room true j)
  | .gcon j => (rs, lawReading rs room true j)
  | .pval b k j => if lawReading rs room b k = Str.ofString "" then lawWriting rs room true j else (rs, lawReading rs room b k)
  | .pvar b k j => if (lawWriting rs room b k).2 = Str.ofString "" then lawWriting (lawWriting rs room b k).1 room true j else lawWriting rs room b k
  | .pcon j => lawWriting rs room true j
  | _ => (rs, Str.ofString "")
def Moves : Ins → Prop
  | .gvar .. | .gval .. | .gcon .. | .pval .. | .pvar .. | .pcon .. => True
  | _ => False
theorem bne_ne {x y : Str} (h : (x != y) = true) : x ≠ y := by rintro rfl; simp at h
theorem bne_eq {x y : Str} (h : (x != y) = false) : x = y := by simpa using h
theorem tup3 {H h : Heap} {r a a' c c' : Addr} {x y : Str} {t t' : Tok} (hs : ∀ o, H.get? r = some o → h.get? r = some o) (e : h.get? r = some (tupO [.str x t, .ref a, .ref c])) (e' : H.get? r = some (tupO [.str y t', .ref a', .ref c'])) : a' = a ∧ c' = c := by
  have := hs _ e'
  rw [e] at this
  simp only [Option.some.injEq, Obj.mk.injEq, Data.seq.injEq, Array.mk.injEq, List.cons.injEq, Value.ref.injEq, and_true, true_and] at this
  exact ⟨this.2.1.symm, this.2.2.symm⟩
theorem tup2 {H h : Heap} {r a a' : Addr} {x y : Str} {t t' : Tok} (hs : ∀ o, H.get? r = some o → h.get? r = some o) (e : h.get? r = some (tupO [.str x t, .ref a])) (e' : H.get? r = some (tupO [.str y t', .ref a'])) : a' = a := by
  have := hs _ e'
  rw [e] at this
  simp only [Option.some.injEq, Obj.mk.injEq, Data.seq.injEq, Array.mk.injEq, List.cons.injEq, Value.ref.injEq, and_true, true_and] at this
  exact this.2.symm
end
section
variable {w : World} {A A₀ : Around} {base g : Heap} {outer : List Env} {env : Env} {s : Shared} {p : Program} {loose : List Str} {mean : ExcName → Option Value} {mg mb : Str → Option Value}
  {R : Result → Shared → Prop} {Q E : Value → Shared → Prop} {L : Addr} {m : Str → Option Value} {news : List (Addr × Obj)}
theorem lawmoved_spec {bk fl r : Addr} {ob : Obj} {vs : List Value} {n : Nat} {rs : List (Bool × Int)} {room : Int} {t : Tok} {e d : Bool} {i : Ins} {fs : Int → Int}
    (D : Rdy A base outer s.heap [(bk, ob), (fl, listOf vs.toArray n)]) (C : Wd w base p loose mean mg mb) (hd : A.depth ≤ 570) (hu : A.units ≤ 1700) (hne : bk ≠ fl) (hlen : vs.length ≤ 90)
    (hob : ob.IsDictOf (strKind PP w) (bkK fl room t e d)) (lo : (bk == sysModules) = false) (hv : RegsAre s.heap vs rs) (hr : IsIns fs s.heap r i) (hi : InsOk i) (hm : Moves i) (hroom : -1 ≤ room ∧ room ≤ 3) (nt : NT s.heap [bk, fl])
    (z : ∀ t' h' tk' vs' n', (∀ H, (∀ o, H.get? r = some o → s.heap.get? r = some o) → RegsAre H vs rs → IsIns fs H r i → RegsAre H vs' (lawMoved rs room i).1) → vs'.length ≤ vs.length + 2 → Keeps [fl] s.heap h' → h'.get? fl = some (listOf vs'.toArray n') →
      R (.ok (.ret (.str (lawMoved rs room i).2 t'))) { s with heap := h', toks := tk' }) :
    codeAny (MM w) A (.call (.ref 416) ⟨[.ref bk, .ref r], []⟩) R s := by
  cases i with
  | gvar b k j =>
    obtain ⟨tw, a, c, er, ha, hc⟩ := hr
    obtain ⟨i1, i2⟩ := hi
    have zz : ∀ x rs' t' h' tk' vs' n', h'.get? fl = some (listOf vs'.toArray n') → (∀ H, (∀ o, H.get? r = some o → s.heap.get? r = some o) → RegsAre H vs rs → IsIns fs H r (.gvar b k j) → RegsAre H vs' rs') → lawMoved rs room (.gvar b k j) = (rs', x) → vs'.length ≤ vs.length + 2 → Keeps [fl] s.heap h' →
        R (.ok (.ret (.str x t'))) { s with heap := h', toks := tk' } := by
      intro x rs' t' h' tk' vs' n' h1 h2 e h3 h4
      have e1 : rs' = (lawMoved rs room (.gvar b k j)).1 := by rw [e]
      have e2 : x = (lawMoved rs room (.gvar b k j)).2 := by rw [e]
      rw [e2]
      exact z t' h' tk' vs' n' (e1 ▸ h2) h3 h4 h1
    refine' enter 570 1700 (binds := [(Str.ofString "book", .ref bk), (Str.ofString "row", .ref r)]) D C.X C.T hd hu ?k6 ?k7 ?k8 ?k9 ?kB ?_ ?c2 ?c3 ?c4 ?c5
    walk_at "my enter"
    intro g L h₁ tk eL hg hgs F N l1 B X T env1
    have at0 := D.at_
    clear D
    k_lt l1
    have hne1 : @Ne Nat bk fl := hne
    have hne2 : @Ne Nat fl bk := hne.symm
    have hv := hv.keep hg nt
    have ha := ha.keep hg nt
    have hc := hc.keep hg nt
    have htup : IsTup g r [.str (Str.ofString "get_variable") tw, .ref a, .ref c].toArray := ⟨_, hg _ _ er fun q => nt _ q _ er rfl, rfl, 0, rfl⟩
    (repeat' (first | walk_at "my step" | (((fail_if_success (fail_if_success (with_reducible show wpAny _ _ (call (Value.ref 390) _) _ _ _))); refine lawread_use (by assumption) (by assumption) (by assumption) (by assumption) rfl rfl rfl rfl (Nat.le_of_ble_eq_true rfl) (Nat.le_of_ble_eq_true rfl) (by assumption) (by assumption) (by assumption) (by k_mem) (by k_mem) (by assumption) (by assumption) (by assumption) (by assumption) ?_; intro t'_m h'_m tk'_m F'_m N'_m; (try dsimp only at N'_m); (try dsimp only); (try k_sweep))) | (((fail_if_success (fail_if_success (with_reducible show wpAny _ _ (call (Value.ref 397) _) _ _ _))); refine' lawwrite_use (by assumption) (by assumption) (by assumption) (by assumption) rfl rfl rfl rfl (Nat.le_of_ble_eq_true rfl) (Nat.le_of_ble_eq_true rfl) (by assumption) ?hl (by assumption) (by assumption) (by k_mem) ?hU (by assumption) (by assumption) (by assumption) (by assumption) ?_; (case hl => omega); (case hU => (intro _; k_upd)); intro t'_m h'_m tk'_m vs'_m n'_m hvs'_m hls'_m F'_m N'_m; (have hvg' := hvs'_m _ (by assumption) (by assumption)); (try dsimp only at N'_m); (try dsimp only); (try k_sweep)))))
    all_goals
      exact zz _ _ _ _ _ _ _ (News.get (by assumption) (by k_mem)) (by first
        | (intro H hs y ⟨_, a', c', e', ha', hc'⟩; have q := tup3 hs er e'; rw [q.1] at ha'; rw [q.2] at hc'; exact (by assumption : ∀ H, RegsAre H vs rs → IsRg H a b k → RegsAre H _ (lawWriting rs room b k).1) H y ha')
        | exact fun H _ y _ => y) (by first
        | rfl
        | (simp only [lawMoved]; rw [if_pos (beq_iff_eq.mp (by assumption))])
        | (simp only [lawMoved]; rw [if_neg (beq_ne (by assumption))])
        | (simp only [lawMoved]; rw [if_neg (bne_ne (by assumption))])
        | (simp only [lawMoved]; rw [if_pos (bne_eq (by assumption))])) (by omega) (keepsM at0 hg (by assumption) (by assumption) [fl] (by
        intro p hp
        rcases List.mem_cons.mp hp with rfl | hp
        · exact .inr (by k_mem)
        · rw [List.mem_singleton.mp hp]; exact .inl (.head _)))
  | gval b k j =>
    obtain ⟨tw, a, c, er, ha, hc⟩ := hr
    obtain ⟨i1, i2⟩ := hi
    have zz : ∀ x rs' t' h' tk' vs' n', h'.get? fl = some (listOf vs'.toArray n') → (∀ H, (∀ o, H.get? r = some o → s.heap.get? r = some o) → RegsAre H vs rs → IsIns fs H r (.gval b k j) → RegsAre H vs' rs') → lawMoved rs room (.gval b k j) = (rs', x) → vs'.length ≤ vs.length + 2 → Keeps [fl] s.heap h' →
        R (.ok (.ret (.str x t'))) { s with heap := h', toks := tk' } := by
      intro x rs' t' h' tk' vs' n' h1 h2 e h3 h4
      have e1 : rs' = (lawMoved rs room (.gval b k j)).1 := by rw [e]
      have e2 : x = (lawMoved rs room (.gval b k j)).2 := by rw [e]
      rw [e2]
      exact z t' h' tk' vs' n' (e1 ▸ h2) h3 h4 h1
    refine' enter 570 1700 (binds := [(Str.ofString "book", .ref bk), (Str.ofString "row", .ref r)]) D C.X C.T hd hu ?k6 ?k7 ?k8 ?k9 ?kB ?_ ?c2 ?c3 ?c4 ?c5
    walk_at "my enter"
    intro g L h₁ tk eL hg hgs F N l1 B X T env1
    have at0 := D.at_
    clear D
    k_lt l1
    have hne1 : @Ne Nat bk fl := hne
    have hne2 : @Ne Nat fl bk := hne.symm
    have hv := hv.keep hg nt
    have ha := ha.keep hg nt
    have hc := hc.keep hg nt
    have htup : IsTup g r [.str (Str.ofString "get_value") tw, .ref a, .ref c].toArray := ⟨_, hg _ _ er fun q => nt _ q _ er rfl, rfl, 0, rfl⟩
    (repeat' (first | walk_at "my step" | (((fail_if_success (fail_if_success (with_reducible show wpAny _ _ (call (Value.ref 390) _) _ _ _))); refine lawread_use (by assumption) (by assumption) (by assumption) (by assumption) rfl rfl rfl rfl (Nat.le_of_ble_eq_true rfl) (Nat.le_of_ble_eq_true rfl) (by assumption) (by assumption) (by assumption) (by k_mem) (by k_mem) (by assumption) (by assumption) (by assumption) (by assumption) ?_; intro t'_m h'_m tk'_m F'_m N'_m; (try dsimp only at N'_m); (try dsimp only); (try k_sweep))) | (((fail_if_success (fail_if_success (with_reducible show wpAny _ _ (call (Value.ref 397) _) _ _ _))); refine' lawwrite_use (by assumption) (by assumption) (by assumption) (by assumption) rfl rfl rfl rfl (Nat.le_of_ble_eq_true rfl) (Nat.le_of_ble_eq_true rfl) (by assumption) ?hl (by assumption) (by assumption) (by k_mem) ?hU (by assumption) (by assumption) (by assumption) (by assumption) ?_; (case hl => omega); (case hU => (intro _; k_upd)); intro t'_m h'_m tk'_m vs'_m n'_m hvs'_m hls'_m F'_m N'_m; (have hvg' := hvs'_m _ (by assumption) (by assumption)); (try dsimp only at N'_m); (try dsimp only); (try k_sweep)))))
    all_goals
      exact zz _ _ _ _ _ _ _ (News.get (by assumption) (by k_mem)) (by first
        | exact fun H _ y _ => y) (by first
        | rfl
        | (simp only [lawMoved]; rw [if_pos (beq_iff_eq.mp (by assumption))])
        | (simp only [lawMoved]; rw [if_neg (beq_ne (by assumption))])
        | (simp only [lawMoved]; rw [if_neg (bne_ne (by assumption))])
        | (simp only [lawMoved]; rw [if_pos (bne_eq (by assumption))])) (by omega) (keepsM at0 hg (by assumption) (by assumption) [fl] (by
        intro p hp
        rcases List.mem_cons.mp hp with rfl | hp
        · exact .inr (by k_mem)
        · rw [List.mem_singleton.mp hp]; exact .inl (.head _)))
  | pval b k j =>
    obtain ⟨tw, a, c, er, ha, hc⟩ := hr
    obtain ⟨i1, i2⟩ := hi
    have zz : ∀ x rs' t' h' tk' vs' n', h'.get? fl = some (listOf vs'.toArray n') → (∀ H, (∀ o, H.get? r = some o → s.heap.get? r = some o) → RegsAre H vs rs → IsIns fs H r (.pval b k j) → RegsAre H vs' rs') → lawMoved rs room (.pval b k j) = (rs', x) → vs'.length ≤ vs.length + 2 → Keeps [fl] s.heap h' →
        R (.ok (.ret (.str x t'))) { s with heap := h', toks := tk' } := by
      intro x rs' t' h' tk' vs' n' h1 h2 e h3 h4
      have e1 : rs' = (lawMoved rs room (.pval b k j)).1 := by rw [e]
      have e2 : x = (lawMoved rs room (.pval b k j)).2 := by rw [e]
      rw [e2]
      exact z t' h' tk' vs' n' (e1 ▸ h2) h3 h4 h1
    refine' enter 570 1700 (binds := [(Str.ofString "book", .ref bk), (Str.ofString "row", .ref r)]) D C.X C.T hd hu ?k6 ?k7 ?k8 ?k9 ?kB ?_ ?c2 ?c3 ?c4 ?c5
    walk_at "my enter"
    intro g L h₁ tk eL hg hgs F N l1 B X T env1
    have at0 := D.at_
    clear D
    k_lt l1
    have hne1 : @Ne Nat bk fl := hne
    have hne2 : @Ne Nat fl bk := hne.symm
    have hv := hv.keep hg nt
    have ha := ha.keep hg nt
    have hc := hc.keep hg nt
    have htup : IsTup g r [.str (Str.ofString "put_value") tw, .ref a, .ref c].toArray := ⟨_, hg _ _ er fun q => nt _ q _ er rfl, rfl, 0, rfl⟩
    (repeat' (first | walk_at "my step" | (((fail_if_success (fail_if_success (with_reducible show wpAny _ _ (call (Value.ref 390) _) _ _ _))); refine lawread_use (by assumption) (by assumption) (by assumption) (by assumption) rfl rfl rfl rfl (Nat.le_of_ble_eq_true rfl) (Nat.le_of_ble_eq_true rfl) (by assumption) (by assumption) (by assumption) (by k_mem) (by k_mem) (by assumption) (by assumption) (by assumption) (by assumption) ?_; intro t'_m h'_m tk'_m F'_m N'_m; (try dsimp only at N'_m); (try dsimp only); (try k_sweep))) | (((fail_if_success (fail_if_success (with_reducible show wpAny _ _ (call (Value.ref 397) _) _ _ _))); refine' lawwrite_use (by assumption) (by assumption) (by assumption) (by assumption) rfl rfl rfl rfl (Nat.le_of_ble_eq_true rfl) (Nat.le_of_ble_eq_true rfl) (by assumption) ?hl (by assumption) (by assumption) (by k_mem) ?hU (by assumption) (by assumption) (by assumption) (by assumption) ?_; (case hl => omega); (case hU => (intro _; k_upd)); intro t'_m h'_m tk'_m vs'_m n'_m hvs'_m hls'_m F'_m N'_m; (have hvg' := hvs'_m _ (by assumption) (by assumption)); (try dsimp only at N'_m); (try dsimp only); (try k_sweep)))))
    all_goals
      exact zz _ _ _ _ _ _ _ (News.get (by assumption) (by k_mem)) (by first
        | (intro H hs y ⟨_, a', c', e', ha', hc'⟩; have q := tup3 hs er e'; rw [q.1] at ha'; rw [q.2] at hc'; exact (by assumption : ∀ H, RegsAre H vs rs → IsRg H c true j → RegsAre H _ (lawWriting rs room true j).1) H y hc')
        | exact fun H _ y _ => y) (by first
        | rfl
        | (simp only [lawMoved]; rw [if_pos (beq_iff_eq.mp (by assumption))])
        | (simp only [lawMoved]; rw [if_neg (beq_ne (by assumption))])
        | (simp only [lawMoved]; rw [if_neg (bne_ne (by assumption))])
        | (simp only [lawMoved]; rw [if_pos (bne_eq (by assumption))])) (by omega) (keepsM at0 hg (by assumption) (by assumption) [fl] (by
        intro p hp
        rcases List.mem_cons.mp hp with rfl | hp
        · exact .inr (by k_mem)
        · rw [List.mem_singleton.mp hp]; exact .inl (.head _)))
  | pvar b k j =>
    obtain ⟨tw, a, c, er, ha, hc⟩ := hr
    obtain ⟨i1, i2⟩ := hi
    have zz : ∀ x rs' t' h' tk' vs' n', h'.get? fl = some (listOf vs'.toArray n') → (∀ H, (∀ o, H.get? r = some o → s.heap.get? r = some o) → RegsAre H vs rs → IsIns fs H r (.pvar b k j) → RegsAre H vs' rs') → lawMoved rs room (.pvar b k j) = (rs', x) → vs'.length ≤ vs.length + 2 → Keeps [fl] s.heap h' →
        R (.ok (.ret (.str x t'))) { s with heap := h', toks := tk' } := by
      intro x rs' t' h' tk' vs' n' h1 h2 e h3 h4
      have e1 : rs' = (lawMoved rs room (.pvar b k j)).1 := by rw [e]
      have e2 : x = (lawMoved rs room (.pvar b k j)).2 := by rw [e]
      rw [e2]
      exact z t' h' tk' vs' n' (e1 ▸ h2) h3 h4 h1
    refine' enter 570 1700 (binds := [(Str.ofString "book", .ref bk), (Str.ofString "row", .ref r)]) D C.X C.T hd hu ?k6 ?k7 ?k8 ?k9 ?kB ?_ ?c2 ?c3 ?c4 ?c5
    walk_at "my enter"
    intro g L h₁ tk eL hg hgs F N l1 B X T env1
    have at0 := D.at_
    clear D
    k_lt l1
    have hne1 : @Ne Nat bk fl := hne
    have hne2 : @Ne Nat fl bk := hne.symm
    have hv := hv.keep hg nt
    have ha := ha.keep hg nt
    have hc := hc.keep hg nt
    have htup : IsTup g r [.str (Str.ofString "put_variable") tw, .ref a, .ref c].toArray := ⟨_, hg _ _ er fun q => nt _ q _ er rfl, rfl, 0, rfl⟩
    (repeat' (first | walk_at "my step" | (((fail_if_success (fail_if_success (with_reducible show wpAny _ _ (call (Value.ref 390) _) _ _ _))); refine lawread_use (by assumption) (by assumption) (by assumption) (by assumption) rfl rfl rfl rfl (Nat.le_of_ble_eq_true rfl) (Nat.le_of_ble_eq_true rfl) (by assumption) (by assumption) (by assumption) (by k_mem) (by k_mem) (by assumption) (by assumption) (by assumption) (by assumption) ?_; intro t'_m h'_m tk'_m F'_m N'_m; (try dsimp only at N'_m); (try dsimp only); (try k_sweep))) | (((fail_if_success (fail_if_success (with_reducible show wpAny _ _ (call (Value.ref 397) _) _ _ _))); refine' lawwrite_use (by assumption) (by assumption) (by assumption) (by assumption) rfl rfl rfl rfl (Nat.le_of_ble_eq_true rfl) (Nat.le_of_ble_eq_true rfl) (by assumption) ?hl (by assumption) (by assumption) (by k_mem) ?hU (by assumption) (by assumption) (by assumption) (by assumption) ?_; (case hl => omega); (case hU => (intro _; k_upd)); intro t'_m h'_m tk'_m vs'_m n'_m hvs'_m hls'_m F'_m N'_m; (have hvg' := hvs'_m _ (by assumption) (by assumption)); (try dsimp only at N'_m); (try dsimp only); (try k_sweep)))))
    all_goals
      exact zz _ _ _ _ _ _ _ (News.get (by assumption) (by k_mem)) (by first
        | (intro H hs y ⟨_, a', c', e', ha', hc'⟩; have q := tup3 hs er e'; rw [q.1] at ha'; rw [q.2] at hc'; exact (by assumption : ∀ H, RegsAre H _ (lawWriting rs room b k).1 → IsRg H c true j → RegsAre H _ (lawWriting (lawWriting rs room b k).1 room true j).1) H ((by assumption : ∀ H, RegsAre H vs rs → IsRg H a b k → RegsAre H _ (lawWriting rs room b k).1) H y ha') hc')
        | (intro H hs y ⟨_, a', c', e', ha', hc'⟩; have q := tup3 hs er e'; rw [q.1] at ha'; rw [q.2] at hc'; exact (by assumption : ∀ H, RegsAre H vs rs → IsRg H a b k → RegsAre H _ (lawWriting rs room b k).1) H y ha')
        | exact fun H _ y _ => y) (by first
        | rfl
        | (simp only [lawMoved]; rw [if_pos (beq_iff_eq.mp (by assumption))])
        | (simp only [lawMoved]; rw [if_neg (beq_ne (by assumption))])
        | (simp only [lawMoved]; rw [if_neg (bne_ne (by assumption))])
        | (simp only [lawMoved]; rw [if_pos (bne_eq (by assumption))])) (by omega) (keepsM at0 hg (by assumption) (by assumption) [fl] (by
        intro p hp
        rcases List.mem_cons.mp hp with rfl | hp
        · exact .inr (by k_mem)
        · rw [List.mem_singleton.mp hp]; exact .inl (.head _)))
  | gcon j =>
    obtain ⟨tw, a, c, q1, q2, er, ea, hc⟩ := hr
    have i2 := hi
    have zz : ∀ x rs' t' h' tk' vs' n', h'.get? fl = some (listOf vs'.toArray n') → (∀ H, (∀ o, H.get? r = some o → s.heap.get? r = some o) → RegsAre H vs rs → IsIns fs H r (.gcon j) → RegsAre H vs' rs') → lawMoved rs room (.gcon j) = (rs', x) → vs'.length ≤ vs.length + 2 → Keeps [fl] s.heap h' →
        R (.ok (.ret (.str x t'))) { s with heap := h', toks := tk' } := by
      intro x rs' t' h' tk' vs' n' h1 h2 e h3 h4
      have e1 : rs' = (lawMoved rs room (.gcon j)).1 := by rw [e]
      have e2 : x = (lawMoved rs room (.gcon j)).2 := by rw [e]
      rw [e2]
      exact z t' h' tk' vs' n' (e1 ▸ h2) h3 h4 h1
    refine' enter 570 1700 (binds := [(Str.ofString "book", .ref bk), (Str.ofString "row", .ref r)]) D C.X C.T hd hu ?k6 ?k7 ?k8 ?k9 ?kB ?_ ?c2 ?c3 ?c4 ?c5
    walk_at "my enter"
    intro g L h₁ tk eL hg hgs F N l1 B X T env1
    have at0 := D.at_
    clear D
    k_lt l1
    have hne1 : @Ne Nat bk fl := hne
    have hne2 : @Ne Nat fl bk := hne.symm
    have hv := hv.keep hg nt
    have hc := hc.keep hg nt
    have htup : IsTup g r [.str (Str.ofString "get_constant") tw, .ref a, .ref c].toArray := ⟨_, hg _ _ er fun q => nt _ q _ er rfl, rfl, 0, rfl⟩
    (repeat' (first | walk_at "my step" | (((fail_if_success (fail_if_success (with_reducible show wpAny _ _ (call (Value.ref 390) _) _ _ _))); refine lawread_use (by assumption) (by assumption) (by assumption) (by assumption) rfl rfl rfl rfl (Nat.le_of_ble_eq_true rfl) (Nat.le_of_ble_eq_true rfl) (by assumption) (by assumption) (by assumption) (by k_mem) (by k_mem) (by assumption) (by assumption) (by assumption) (by assumption) ?_; intro t'_m h'_m tk'_m F'_m N'_m; (try dsimp only at N'_m); (try dsimp only); (try k_sweep))) | (((fail_if_success (fail_if_success (with_reducible show wpAny _ _ (call (Value.ref 397) _) _ _ _))); refine' lawwrite_use (by assumption) (by assumption) (by assumption) (by assumption) rfl rfl rfl rfl (Nat.le_of_ble_eq_true rfl) (Nat.le_of_ble_eq_true rfl) (by assumption) ?hl (by assumption) (by assumption) (by k_mem) ?hU (by assumption) (by assumption) (by assumption) (by assumption) ?_; (case hl => omega); (case hU => (intro _; k_upd)); intro t'_m h'_m tk'_m vs'_m n'_m hvs'_m hls'_m F'_m N'_m; (have hvg' := hvs'_m _ (by assumption) (by assumption)); (try dsimp only at N'_m); (try dsimp only); (try k_sweep)))))
    all_goals
      exact zz _ _ _ _ _ _ _ (News.get (by assumption) (by k_mem)) (by first
        | exact fun H _ y _ => y) (by first
        | rfl
        | (simp only [lawMoved]; rw [if_pos (beq_iff_eq.mp (by assumption))])
        | (simp only [lawMoved]; rw [if_neg (beq_ne (by assumption))])
        | (simp only [lawMoved]; rw [if_neg (bne_ne (by assumption))])
        | (simp only [lawMoved]; rw [if_pos (bne_eq (by assumption))])) (by omega) (keepsM at0 hg (by assumption) (by assumption) [fl] (by
        intro p hp
        rcases List.mem_cons.mp hp with rfl | hp
        · exact .inr (by k_mem)
        · rw [List.mem_singleton.mp hp]; exact .inl (.head _)))
  | pcon j =>
    obtain ⟨tw, a, c, q1, q2, er, ea, hc⟩ := hr
    have i2 := hi
    have zz : ∀ x rs' t' h' tk' vs' n', h'.get? fl = some (listOf vs'.toArray n') → (∀ H, (∀ o, H.get? r = some o → s.heap.get? r = some o) → RegsAre H vs rs → IsIns fs H r (.pcon j) → RegsAre H vs' rs') → lawMoved rs room (.pcon j) = (rs', x) → vs'.length ≤ vs.length + 2 → Keeps [fl] s.heap h' →
        R (.ok (.ret (.str x t'))) { s with heap := h', toks := tk' } := by
      intro x rs' t' h' tk' vs' n' h1 h2 e h3 h4
      have e1 : rs' = (lawMoved rs room (.pcon j)).1 := by rw [e]
      have e2 : x = (lawMoved rs room (.pcon j)).2 := by rw [e]
      rw [e2]
      exact z t' h' tk' vs' n' (e1 ▸ h2) h3 h4 h1
    refine' enter 570 1700 (binds := [(Str.ofString "book", .ref bk), (Str.ofString "row", .ref r)]) D C.X C.T hd hu ?k6 ?k7 ?k8 ?k9 ?kB ?_ ?c2 ?c3 ?c4 ?c5
    walk_at "my enter"
    intro g L h₁ tk eL hg hgs F N l1 B X T env1
    have at0 := D.at_
    clear D
    k_lt l1
    have hne1 : @Ne Nat bk fl := hne
    have hne2 : @Ne Nat fl bk := hne.symm
    have hv := hv.keep hg nt
    have hc := hc.keep hg nt
    have htup : IsTup g r [.str (Str.ofString "put_constant") tw, .ref a, .ref c].toArray := ⟨_, hg _ _ er fun q => nt _ q _ er rfl, rfl, 0, rfl⟩
    (repeat' (first | walk_at "my step" | (((fail_if_success (fail_if_success (with_reducible show wpAny _ _ (call (Value.ref 390) _) _ _ _))); refine lawread_use (by assumption) (by assumption) (by assumption) (by assumption) rfl rfl rfl rfl (Nat.le_of_ble_eq_true rfl) (Nat.le_of_ble_eq_true rfl) (by assumption) (by assumption) (by assumption) (by k_mem) (by k_mem) (by assumption) (by assumption) (by assumption) (by assumption) ?_; intro t'_m h'_m tk'_m F'_m N'_m; (try dsimp only at N'_m); (try dsimp only); (try k_sweep))) | (((fail_if_success (fail_if_success (with_reducible show wpAny _ _ (call (Value.ref 397) _) _ _ _))); refine' lawwrite_use (by assumption) (by assumption) (by assumption) (by assumption) rfl rfl rfl rfl (Nat.le_of_ble_eq_true rfl) (Nat.le_of_ble_eq_true rfl) (by assumption) ?hl (by assumption) (by assumption) (by k_mem) ?hU (by assumption) (by assumption) (by assumption) (by assumption) ?_; (case hl => omega); (case hU => (intro _; k_upd)); intro t'_m h'_m tk'_m vs'_m n'_m hvs'_m hls'_m F'_m N'_m; (have hvg' := hvs'_m _ (by assumption) (by assumption)); (try dsimp only at N'_m); (try dsimp only); (try k_sweep)))))
    all_goals
      exact zz _ _ _ _ _ _ _ (News.get (by assumption) (by k_mem)) (by first
        | (intro H hs y ⟨_, a', c', _, _, e', ea', hc'⟩; have q := tup3 hs er e'; rw [q.2] at hc'; exact (by assumption : ∀ H, RegsAre H vs rs → IsRg H c true j → RegsAre H _ (lawWriting rs room true j).1) H y hc')
        | exact fun H _ y _ => y) (by first
        | rfl
        | (simp only [lawMoved]; rw [if_pos (beq_iff_eq.mp (by assumption))])
        | (simp only [lawMoved]; rw [if_neg (beq_ne (by assumption))])
        | (simp only [lawMoved]; rw [if_neg (bne_ne (by assumption))])
        | (simp only [lawMoved]; rw [if_pos (bne_eq (by assumption))])) (by omega) (keepsM at0 hg (by assumption) (by assumption) [fl] (by
        intro p hp
        rcases List.mem_cons.mp hp with rfl | hp
        · exact .inr (by k_mem)
        · rw [List.mem_singleton.mp hp]; exact .inl (.head _)))
  | alloc => exact hm.elim
  | call => exact hm.elim
  | exec => exact hm.elim
  | blt => exact hm.elim
  | lev => exact hm.elim
  | cut => exact hm.elim
  | dea => exact hm.elim
  | pro => exact hm.elim
  | neck => exact hm.elim
  | fail => exact hm.elim
theorem lawmoved_use {bk fl r : Addr} {ob : Obj} {vs : List Value} {n : Nat} {rs : List (Bool × Int)} {room : Int} {t : Tok} {e d : Bool} {i : Ins} {fs : Int → Int} {nf : Obj → List (Addr × Obj)}
    (B : Below A₀ base outer g) (F : Fr g L s.heap m) (N : News g L s.heap news) (C : Wd w base p loose mean mg mb)
    (hh : A.handled = none) (hA : A.frames = some (env :: outer)) (hf : env.frame = some L) (hke : env.scope.kind = .function)
    (hd : A.depth ≤ 570) (hu : A.units ≤ 1700) (hne : bk ≠ fl) (hlen : vs.length ≤ 90) (hob : ob.IsDictOf (strKind PP w) (bkK fl room t e d)) (lo : (bk == sysModules) = false)
    (m1 : (bk, ob) ∈ news) (U : ∀ o', Upd fl (listOf vs.toArray n) o' news (nf o')) (hv : RegsAre g vs rs) (hr : IsIns fs g r i) (hi : InsOk i) (hm : Moves i) (hroom : -1 ≤ room ∧ room ≤ 3)
    (z : ∀ t' h' tk' vs' n', (∀ H, (∀ o, H.get? r = some o → g.get? r = some o) → RegsAre H vs rs → IsIns fs H r i → RegsAre H vs' (lawMoved rs room i).1) → vs'.length ≤ vs.length + 2 → Fr g L h' m → News g L h' (nf (listOf vs'.toArray n')) → Q (.str (lawMoved rs room i).2 t') { s with heap := h', toks := tk' }) :
    wpAny (MM w) A (call (.ref 416) [.ref bk, .ref r]) Q E s := by
  have m2 := updMem (U (listOf vs.toArray n))
  have hs : ∀ p ∈ [(bk, ob), (fl, listOf vs.toArray n)], p ∈ news := by
    intro p hp
    rcases List.mem_cons.mp hp with rfl | hp
    · exact m1
    · rw [List.mem_singleton.mp hp]; exact m2
  have N1 := newsSub N hs
  have N2 : News g L s.heap [(fl, listOf vs.toArray n)] := newsSub N fun p hp => hs p (.tail _ hp)
  have K0 : Keeps [] g s.heap := fun b o e _ => F.keep b o e
  have nt0 : NT g [] := fun _ q => nomatch q
  have nt : NT s.heap [bk, fl] := nt_of (mods := [(bk, ob), (fl, listOf vs.toArray n)]) (fun p hp => (N1 p hp).1) (by
    intro p hp
    rcases List.mem_cons.mp hp with rfl | hp
    · exact dict_cls hob
    · rw [List.mem_singleton.mp hp]; show Value.type "list" ≠ Value.type "tuple"; decide)
  refine wpAny_call (lawmoved_spec (Rdy.nest B F N1 hh hA hf hke) C hd hu hne hlen hob lo (hv.keep K0 nt0) (hr.keep K0 nt0) hi hm hroom nt fun t' h' tk' vs' n' h1 h2 hK hq => ?_)
  exact z t' h' tk' vs' n' (fun H hs => h1 H fun o ho => F.keep _ _ (hs o ho)) h2 (frAfter F N2 hK) (newsAfter1 N (U _) hK hq)
end
section
variable {w : World} {A A₀ : Around} {base g : Heap} {outer : List Env} {env : Env} {s : Shared} {p : Program} {loose : List Str} {mean : ExcName → Option Value} {mg mb : Str → Option Value}
  {R : Result → Shared → Prop} {Q E : Value → Shared → Prop} {L : Addr} {m : Str → Option Value} {news : List (Addr × Obj)}
theorem newNoneN {a : Addr} {o : Obj} {h : Heap} (N : News g L h news) (hm : (a, o) ∈ news) : g.get? a = none := (N _ hm).2.2
def fsN (i : Int) : Int := 32 + i
abbrev szK (t0 t1 t2 : Tok) : List (Int × Value) := [(32, .int 0 t0), (33, .int 1 t1), (34, .int 2 t2)]
theorem sz_at {t0 t1 t2 : Tok} {i : Int} (h : 0 ≤ i ∧ i < 3) : ∃ tz, valueAt (szK t0 t1 t2) (fsN i) = some (.int i tz) := by
  have : i = 0 ∨ i = 1 ∨ i = 2 := by omega
  rcases this with rfl | rfl | rfl <;> exact ⟨_, rfl⟩
structure Bk where
  rs : List Reg
  room : Int
  ended : Bool
  dead : Bool
def lawStepped (b : Bk) : Ins → Bk × Str
  | .gvar b' k j => ({ b with rs := (lawMoved b.rs b.room (.gvar b' k j)).1 }, (lawMoved b.rs b.room (.gvar b' k j)).2)
  | .gval b' k j => ({ b with rs := (lawMoved b.rs b.room (.gval b' k j)).1 }, (lawMoved b.rs b.room (.gval b' k j)).2)
  | .pval b' k j => ({ b with rs := (lawMoved b.rs b.room (.pval b' k j)).1 }, (lawMoved b.rs b.room (.pval b' k j)).2)
  | .pvar b' k j => ({ b with rs := (lawMoved b.rs b.room (.pvar b' k j)).1 }, (lawMoved b.rs b.room (.pvar b' k j)).2)
  | .gcon j => ({ b with rs := (lawMoved b.rs b.room (.gcon j)).1 }, (lawMoved b.rs b.room (.gcon j)).2)
  | .pcon j => ({ b with rs := (lawMoved b.rs b.room (.pcon j)).1 }, (lawMoved b.rs b.room (.pcon j)).2)
  | .alloc n => ({ b with room := n }, if b.room ≥ 0 then Str.ofString "a second environment" else Str.ofString "")
  | .dea => ({ b with room := -1, rs := b.rs.filter (·.1) }, if b.room < 0 then Str.ofString "no environment to give back" else Str.ofString "")
  | .call i n => ({ b with rs := b.rs.filter (keptBy n) }, lawCalled b.rs b.room i n)
  | .blt i => (b, lackOf b.rs i)
  | .lev b' k => ({ b with rs := (lawWriting b.rs b.room b' k).1 }, (lawWriting b.rs b.room b' k).2)
  | .cut b' k => (b, lawReading b.rs b.room b' k)
  | .exec i => ({ b with ended := true }, if b.room ≥ 0 then Str.ofString "the clause is left with its environment" else lackOf b.rs i)
  | .pro => ({ b with ended := true }, if b.room ≥ 0 then Str.ofString "the clause is left with its environment" else Str.ofString "")
  | .fail => ({ b with ended := true, dead := true }, Str.ofString "")
  | .neck => (b, Str.ofString "")
theorem x_test {A : Around} {scope : Scope} {cl : List (Str × Addr)} {C : Addr} {env : Env} {h : Heap} {a : Addr} {b : Bool} {k : Int} {t1 t2 : Tok} {s₂ : Shared} {m₂ : Str → Option Value} {E' : Value → Shared → Prop} {p1 p2 p3 p4 p5 : Pos}
    (hk : (compEnvC scope cl C env).scope.kind = .function) (hx : (compEnvC scope cl C env).kindOf (Str.ofString "one") = some .local) (htup : IsTup h a [.str (rn b) t1, .int k t2].toArray)
    (F : Fr h C s₂.heap m₂) (hone : m₂ (Str.ofString "one") = some (.ref a)) (hu : A.units + 64 < cLine) :
    wpAny (MM w) A (isTrue (((Expr.Name (Str.ofString "one") p1).Subscript (.Constant (.int 0) 0 p2) p3).Compare [.Eq] [.Constant (.str (Str.ofString "x")) 0 p4] p5) (compEnvC scope cl C env)
      (eval (((Expr.Name (Str.ofString "one") p1).Subscript (.Constant (.int 0) 0 p2) p3).Compare [.Eq] [.Constant (.str (Str.ofString "x")) 0 p4] p5) (compEnvC scope cl C env)))
      (fun ok s₃ => ok = (b, k).1 ∧ PySem.Keeps s₂ s₃) E' s₂ := by
  have hb : (rn b == Str.ofString "x") = b := by cases b <;> decide +kernel
  (repeat' (walk_at "my step"))
  all_goals first
    | exact keep_tok _ _
    | exact hb
    | (rw [hb] at *; first | assumption | (symm; assumption) | (simp_all))
theorem IsIns.wd {fs : Int → Int} {h : Heap} {r : Addr} {i : Ins} (x : IsIns fs h r i) : ∃ tw ops, h.get? r = some (tupO (.str (wordOf i) tw :: ops)) := by
  obtain ⟨t, ops, _, e, _⟩ := x.objs
  exact ⟨t, ops, e⟩
theorem w_len (i : Ins) : (wordOf i).length ≤ 100 := by cases i <;> (show (Str.ofString _).length ≤ 100; decide)
def isGet : Ins → Bool | .gvar .. | .gval .. | .gcon .. => true | _ => false
def isPut : Ins → Bool | .pvar .. | .pval .. | .pcon .. => true | _ => false
def isLev : Ins → Bool | .lev .. => true | _ => false
theorem w_lev (i : Ins) : (wordOf i == Str.ofString "get_level") = isLev i := by cases i <;> first | (show (Str.ofString _ == _) = false; decide +kernel) | (show (Str.ofString _ == _) = true; decide +kernel)
theorem tup_of {h : Heap} {a : Addr} {l : List Value} (e : h.get? a = some (tupO l)) : IsTup h a l.toArray := ⟨_, e, rfl, 0, rfl⟩
theorem wi_alloc {i : Ins} (h : (wordOf i == Str.ofString "allocate") = true) : ∃ n, i = .alloc n := by cases i <;> first | exact ⟨_, rfl⟩ | exact absurd h (by show ¬ ((Str.ofString _ == _) = _); decide)
theorem wi_dea {i : Ins} (h : (wordOf i == Str.ofString "deallocate") = true) : i = .dea := by cases i <;> first | rfl | exact absurd h (by show ¬ ((Str.ofString _ == _) = _); decide)
theorem wi_call {i : Ins} (h : (wordOf i == Str.ofString "call") = true) : ∃ a b, i = .call a b := by cases i <;> first | exact ⟨_, _, rfl⟩ | exact absurd h (by show ¬ ((Str.ofString _ == _) = _); decide)
theorem wi_exec {i : Ins} (h : (wordOf i == Str.ofString "execute") = true) : ∃ n, i = .exec n := by cases i <;> first | exact ⟨_, rfl⟩ | exact absurd h (by show ¬ ((Str.ofString _ == _) = _); decide)
theorem wi_pro {i : Ins} (h : (wordOf i == Str.ofString "proceed") = true) : i = .pro := by cases i <;> first | rfl | exact absurd h (by show ¬ ((Str.ofString _ == _) = _); decide)
theorem wi_blt {i : Ins} (h : (wordOf i == Str.ofString "builtin") = true) : ∃ n, i = .blt n := by cases i <;> first | exact ⟨_, rfl⟩ | exact absurd h (by show ¬ ((Str.ofString _ == _) = _); decide)
theorem wi_cut {i : Ins} (h : (wordOf i == Str.ofString "cut_to") = true) : ∃ b k, i = .cut b k := by cases i <;> first | exact ⟨_, _, rfl⟩ | exact absurd h (by show ¬ ((Str.ofString _ == _) = _); decide)
theorem wi_fail {i : Ins} (h : (wordOf i == Str.ofString "fail") = true) : i = .fail := by cases i <;> first | rfl | exact absurd h (by show ¬ ((Str.ofString _ == _) = _); decide)
theorem wi_lev {i : Ins} (h : (wordOf i == Str.ofString "get_level") = true) : ∃ b k, i = .lev b k := by
  rw [w_lev] at h
  cases i <;> first | exact ⟨_, _, rfl⟩ | exact absurd h Bool.false_ne_true
theorem lev_data {fs : Int → Int} {h : Heap} {r : Addr} {i : Ins} {P : Prop} (q : (wordOf i == Str.ofString "get_level") = true) (x : IsIns fs h r i) (hi : InsOk i) (z : ∀ b k tw a, i = .lev b k → h.get? r = some (tupO [.str (Str.ofString "get_level") tw, .ref a]) → IsRg h a b k → RgOk b k → P) : P := by
  obtain ⟨b, k, rfl⟩ := wi_lev q
  obtain ⟨tw, a, e, x⟩ := x
  exact z _ _ _ _ rfl e x hi
theorem cut_data {fs : Int → Int} {h : Heap} {r : Addr} {i : Ins} {P : Prop} (q : (wordOf i == Str.ofString "cut_to") = true) (x : IsIns fs h r i) (hi : InsOk i) (z : ∀ b k tw a, i = .cut b k → h.get? r = some (tupO [.str (Str.ofString "cut_to") tw, .ref a]) → IsRg h a b k → RgOk b k → P) : P := by
  obtain ⟨b, k, rfl⟩ := wi_cut q
  obtain ⟨tw, a, e, x⟩ := x
  exact z _ _ _ _ rfl e x hi
theorem alloc_data {fs : Int → Int} {h : Heap} {r : Addr} {i : Ins} {P : Prop} (q : (wordOf i == Str.ofString "allocate") = true) (x : IsIns fs h r i) (hi : InsOk i) (z : ∀ n tw t, i = .alloc n → h.get? r = some (tupO [.str (Str.ofString "allocate") tw, .int n t]) → 0 ≤ n → n < 3 → P) : P := by
  obtain ⟨n, rfl⟩ := wi_alloc q
  obtain ⟨tw, t, e⟩ := x
  exact z _ _ _ rfl e hi.1 hi.2
theorem exec_data {fs : Int → Int} {h : Heap} {r : Addr} {i : Ins} {P : Prop} (q : (wordOf i == Str.ofString "execute") = true) (x : IsIns fs h r i) (hi : InsOk i) (z : ∀ n tw t, i = .exec n → h.get? r = some (tupO [.str (Str.ofString "execute") tw, .int (fs n) t]) → 0 ≤ n → n < 3 → P) : P := by
  obtain ⟨n, rfl⟩ := wi_exec q
  obtain ⟨tw, t, e⟩ := x
  exact z _ _ _ rfl e hi.1 hi.2
theorem blt_data {fs : Int → Int} {h : Heap} {r : Addr} {i : Ins} {P : Prop} (q : (wordOf i == Str.ofString "builtin") = true) (x : IsIns fs h r i) (hi : InsOk i) (z : ∀ n tw t, i = .blt n → h.get? r = some (tupO [.str (Str.ofString "builtin") tw, .int (fs n) t]) → 0 ≤ n → n < 3 → P) : P := by
  obtain ⟨n, rfl⟩ := wi_blt q
  obtain ⟨tw, t, e⟩ := x
  exact z _ _ _ rfl e hi.1 hi.2
theorem pro_data {fs : Int → Int} {h : Heap} {r : Addr} {i : Ins} {P : Prop} (q : (wordOf i == Str.ofString "proceed") = true) (x : IsIns fs h r i) (z : ∀ tw, i = .pro → h.get? r = some (tupO [.str (Str.ofString "proceed") tw]) → P) : P := by
  obtain rfl := wi_pro q
  obtain ⟨tw, e⟩ := x
  exact z _ rfl e
theorem call_data {fs : Int → Int} {h : Heap} {r : Addr} {i : Ins} {P : Prop} (q : (wordOf i == Str.ofString "call") = true) (x : IsIns fs h r i) (hi : InsOk i) (z : ∀ n l tw t u, i = .call n l → h.get? r = some (tupO [.str (Str.ofString "call") tw, .int (fs n) t, .int l u]) → 0 ≤ n → n < 3 → 0 ≤ l → l < 3 → P) : P := by
  obtain ⟨n, l, rfl⟩ := wi_call q
  obtain ⟨tw, t, u, e⟩ := x
  exact z _ _ _ _ _ rfl e hi.1.1 hi.1.2 hi.2.1 hi.2.2
def isMv : Ins → Bool
  | .gvar .. | .gval .. | .gcon .. | .pval .. | .pvar .. | .pcon .. => true
  | _ => false
theorem w_any (i : Ins) : ([Str.ofString "get_", Str.ofString "put_"].any fun x => x == Txt.slice (wordOf i) none (some 4)) = (isMv i || isLev i) := by
  cases i <;> first
    | (show ([Str.ofString _, Str.ofString _].any fun x => x == Txt.slice (Str.ofString _) none (some 4)) = true; decide +kernel)
    | (show ([Str.ofString _, Str.ofString _].any fun x => x == Txt.slice (Str.ofString _) none (some 4)) = false; decide +kernel)
theorem mv_data {i : Ins} (h : isMv i = true) : Moves i := by cases i <;> first | trivial | exact absurd h Bool.false_ne_true
theorem mv_step {i : Ins} (h : isMv i = true) (rs : List Reg) (room : Int) (e d : Bool) : lawStepped ⟨rs, room, e, d⟩ i = (⟨(lawMoved rs room i).1, room, e, d⟩, (lawMoved rs room i).2) := by cases i <;> first | rfl | exact absurd h Bool.false_ne_true
theorem not_mv_lev {i : Ins} (h : isMv i = true) : isLev i = false := by cases i <;> first | rfl | exact absurd h Bool.false_ne_true
def isEP : Ins → Bool
  | .exec _ | .pro => true
  | _ => false
theorem w_ep (i : Ins) : ([Str.ofString "execute", Str.ofString "proceed"].any fun x => x == wordOf i) = isEP i := by
  cases i <;> first
    | (show ([Str.ofString _, Str.ofString _].any fun x => x == Str.ofString _) = true; decide +kernel)
    | (show ([Str.ofString _, Str.ofString _].any fun x => x == Str.ofString _) = false; decide +kernel)
theorem ep_left {i : Ins} (h : isEP i = true) {rs : List Reg} {room : Int} {e d : Bool} (hr : room ≥ 0) : lawStepped ⟨rs, room, e, d⟩ i = (⟨rs, room, true, d⟩, Str.ofString "the clause is left with its environment") := by
  cases i <;> first
    | exact absurd h Bool.false_ne_true
    | (simp only [lawStepped]; rw [if_pos hr])
theorem ep_pro {i : Ins} (h : isEP i = true) (q : (wordOf i == Str.ofString "execute") = false) : i = .pro := by
  cases i <;> first
    | rfl
    | exact absurd h Bool.false_ne_true
    | exact absurd q (by show ¬ ((Str.ofString _ == _) = _); decide)
def isCtl : Ins → Bool
  | .alloc _ | .dea | .call _ _ | .exec _ | .pro | .blt _ | .cut _ _ | .fail | .neck => true
  | _ => false
theorem last_data {i : Ins} (h : isMv i = false) (h1 : (wordOf i == Str.ofString "allocate") = false) (h2 : (wordOf i == Str.ofString "deallocate") = false) (h3 : (wordOf i == Str.ofString "call") = false) (h4 : isEP i = false) (h6 : (wordOf i == Str.ofString "builtin") = false) (h7 : (wordOf i == Str.ofString "cut_to") = false) (h8 : (wordOf i == Str.ofString "get_level") = false) (h9 : (wordOf i == Str.ofString "fail") = false) : i = .neck := by
  cases i with
  | alloc => exact absurd h1 (by show ¬ ((Str.ofString _ == _) = _); decide)
  | dea => exact absurd h2 (by show ¬ ((Str.ofString _ == _) = _); decide)
  | call => exact absurd h3 (by show ¬ ((Str.ofString _ == _) = _); decide)
  | exec => exact absurd h4.symm Bool.false_ne_true
  | pro => exact absurd h4.symm Bool.false_ne_true
  | blt => exact absurd h6 (by show ¬ ((Str.ofString _ == _) = _); decide)
  | cut => exact absurd h7 (by show ¬ ((Str.ofString _ == _) = _); decide)
  | lev => exact absurd h8 (by show ¬ ((Str.ofString _ == _) = _); decide)
  | fail => exact absurd h9 (by show ¬ ((Str.ofString _ == _) = _); decide)
  | neck => rfl
  | _ => exact absurd h.symm Bool.false_ne_true
/-- a statement that may return, else leaves the frame and the ledger as told -/
theorem seqCut {M : Model} {st : Stmt} {rest : List Stmt} {Q : Flow → Shared → Prop} {E : Value → Shared → Prop} {hp : Heap} {gs : Array GenState} {dr : Drawn} {tk : Nat} {os : OsState} {m' : Str → Option Value} {news' : List (Addr × Obj)} {P : Prop}
    (_F : Fr g L hp m') (h1 : ∀ J : Flow → Shared → Prop, (∀ v s', Q (.ret v) s' → J (.ret v) s') → (∀ h' tk', Fr g L h' m' → News g L h' news' → P → J .next ⟨h', gs, dr, tk', os⟩) → wpAny M A (exec st env) J E ⟨hp, gs, dr, tk, os⟩)
    (h2 : ∀ h' tk', Fr g L h' m' → News g L h' news' → P → wpAny M A (execs rest env) Q E ⟨h', gs, dr, tk', os⟩) : wpAny M A (execs (st :: rest) env) Q E ⟨hp, gs, dr, tk, os⟩ :=
  wpAny_execs_cons (h1 _ (fun v s' h => h) h2)
end
local macro_rules | `(tactic| walk_at "subscriptTail") => `(tactic| ((fail_if_success (fail_if_success (with_reducible show wpAny _ _ (subscriptTail _ _ (Value.ref _) (Value.int (fsN _) _)) _ _ _))); refine kda_item (knd := PySem.intKind _ _) (by assumption) (by k_mem) (by assumption) (intKind_is _ _ _ _) (by assumption) ?_))
section
variable {w : World} {A A₀ : Around} {base g : Heap} {outer : List Env} {env : Env} {s : Shared} {p : Program} {loose : List Str} {mean : ExcName → Option Value} {mg mb : Str → Option Value}
  {R : Result → Shared → Prop} {Q E : Value → Shared → Prop} {L : Addr} {m : Str → Option Value} {news : List (Addr × Obj)}
theorem lawstepped_spec {bk fl sz r : Addr} {ob osz : Obj} {vs : List Value} {n : Nat} {rs : List (Bool × Int)} {room : Int} {t t0 t1 t2 : Tok} {e d : Bool} {i : Ins}
    (D : Rdy A base outer s.heap [(bk, ob), (fl, listOf vs.toArray n), (sz, osz)]) (C : Wd w base p loose mean mg mb) (hd : A.depth ≤ 560) (hu : A.units ≤ 1600) (hne : bk ≠ fl) (hlen : vs.length ≤ 90)
    (hob : ob.IsDictOf (strKind PP w) (bkK fl room t e d)) (lo : (bk == sysModules) = false) (hosz : osz.IsDictOf (intKind PP w) (szK t0 t1 t2)) (lsz : (sz == sysModules) = false) (hns1 : sz ≠ bk) (hns2 : sz ≠ fl)
    (hv : RegsAre s.heap vs rs) (hr : IsIns fsN s.heap r i) (hi : InsOk i) (hroom : -1 ≤ room ∧ room ≤ 3) (nt : NT s.heap [bk, fl, sz])
    (z : ∀ t' h' tk' ob' fl' vs' n' tr, ob'.IsDictOf (strKind PP w) (bkK fl' (lawStepped ⟨rs, room, e, d⟩ i).1.room tr (lawStepped ⟨rs, room, e, d⟩ i).1.ended (lawStepped ⟨rs, room, e, d⟩ i).1.dead) →
      (∀ H, (∀ o, H.get? r = some o → s.heap.get? r = some o) → RegsAre H vs rs → IsIns fsN H r i → RegsAre H vs' (lawStepped ⟨rs, room, e, d⟩ i).1.rs) → vs'.length ≤ vs.length + 2 → Keeps [bk, fl] s.heap h' → (fl' = fl ∨ s.heap.get? fl' = none) → h'.get? bk = some ob' → h'.get? fl' = some (listOf vs'.toArray n') →
      R (.ok (.ret (.str (lawStepped ⟨rs, room, e, d⟩ i).2 t'))) { s with heap := h', toks := tk' }) :
    codeAny (MM w) A (.call (.ref 421) ⟨[.ref bk, .ref r, .ref sz], []⟩) R s := by
  obtain ⟨tw, ops, er⟩ := hr.wd
  generalize hw : wordOf i = word at er
  refine' enter 560 1600 (binds := [(Str.ofString "book", .ref bk), (Str.ofString "row", .ref r), (Str.ofString "sizes", .ref sz)]) D C.X C.T hd hu ?k6 ?k7 ?k8 ?k9 ?kB ?_ ?c2 ?c3 ?c4 ?c5
  walk_at "my enter"
  intro g L h₁ tk eL hg hgs F N l1 B X T env1
  have at0 := D.at_
  clear D
  k_lt l1
  have hne1 : @Ne Nat bk fl := hne
  have hne2 : @Ne Nat fl bk := hne.symm
  have hne3 : @Ne Nat sz bk := hns1
  have hne4 : @Ne Nat sz fl := hns2
  have hv := hv.keep hg nt
  have hrg := hr.keep hg nt
  have htup : IsTup g r (.str word tw :: ops).toArray := ⟨_, hg _ _ er fun q => nt _ q _ er rfl, rfl, 0, rfl⟩
  have hlw : word.length ≤ 100 := by rw [← hw]; exact w_len i
  have fin : ∀ x t' h' tk' ob' fl' vs' n' tr rs' room' e' d' m' news', Fr g L h' m' → News g L h' news' → (bk, ob') ∈ news' → ob'.IsDictOf (strKind PP w) (bkK fl' room' tr e' d') → (fl', listOf vs'.toArray n') ∈ news' → (sz, osz) ∈ news' →
      (∀ H, (∀ o, H.get? r = some o → s.heap.get? r = some o) → RegsAre H vs rs → IsIns fsN H r i → RegsAre H vs' rs') → lawStepped ⟨rs, room, e, d⟩ i = (⟨rs', room', e', d'⟩, x) → vs'.length ≤ vs.length + 2 → (fl' = fl ∨ (@Ne Nat bk fl' ∧ @Ne Nat fl fl' ∧ @Ne Nat sz fl')) →
      R (.ok (.ret (.str x t'))) { s with heap := h', toks := tk' } := by
    intro x t' h' tk' ob' fl' vs' n' tr rs' room' e' d' m' news' F' N' m1 h3 m2 m3 h4 q h5 h6
    have e2 : x = (lawStepped ⟨rs, room, e, d⟩ i).2 := by rw [q]
    rw [e2]
    refine z t' h' tk' ob' fl' vs' n' tr ?_ ?_ h5 ?_ ?_ (N'.get m1) (N'.get m2)
    · rw [q]; exact h3
    · rw [q]; exact h4
    · exact keepsM at0 hg F' N' [bk, fl] (by
        intro p hp
        rcases List.mem_cons.mp hp with rfl | hp
        · exact .inl (.head _)
        · rcases List.mem_cons.mp hp with rfl | hp
          · exact .inl (.tail _ (.head _))
          · rw [List.mem_singleton.mp hp]; exact .inr m3)
    · rcases h6 with h6 | ⟨j1, j2, j3⟩
      · exact .inl h6
      · exact .inr (freshOf hg (N'.fresh m2) (by
          intro q
          rcases List.mem_cons.mp q with q | q
          · exact j1 q.symm
          · rcases List.mem_cons.mp q with q | q
            · exact j2 q.symm
            · exact j3 (List.mem_singleton.mp q).symm))
  repeat' (first | ((fail_if_success (with_reducible show wpAny _ _ (execs (PySem.Stmt.If _ _ _ _ :: _) _) _ _ _)); first | walk_at "my step" | ((fail_if_success (fail_if_success (with_reducible show wpAny _ _ (subscriptTail _ _ (Value.ref _) (Value.int 0 _)) _ _ _))); refine item_tupleT (j := 0) (x := .str word tw) (Fr.tup (by assumption) htup) (by decide) (by decide) (by simp [seqIndex?]) rfl ?_; (try dsimp only))))
  refine seqCut (by assumption) (P := isMv i = false) (news' := [(bk, ob), (fl, listOf vs.toArray n), (sz, osz)]) ?_ ?_
  · intro J hJr hJn
    repeat' (first | walk_at "my step")
    · have q1 : ([Str.ofString "get_", Str.ofString "put_"].any fun x => x == Txt.slice word none (some 4)) = true := by assumption
      have q2 : (word != Str.ofString "get_level") = true := by assumption
      have im : isMv i = true := by
        rw [← hw, w_any] at q1
        rcases Bool.or_eq_true_iff.mp q1 with q | q
        · exact q
        · rw [← w_lev, hw] at q
          rw [bne, q] at q2
          exact absurd q2 Bool.false_ne_true
      have hmv := mv_data im
      (refine' lawmoved_use (by assumption) (by assumption) (by assumption) (by assumption) rfl rfl rfl rfl (Nat.le_of_ble_eq_true rfl) (Nat.le_of_ble_eq_true rfl) (by assumption) ?hl (by assumption) (by assumption) (by k_mem) ?hU (by assumption) (by assumption) (by assumption) (by assumption) (by assumption) ?_; (case hl => omega); (case hU => (intro _; k_upd)); intro t' h' tk' vs' n' hvs' hls' F' N'; (try dsimp only at N'); (try dsimp only); (try k_sweep))
      refine hJr _ _ (fin _ _ _ _ _ _ _ _ _ _ _ _ _ _ _ (by assumption) (by assumption) (by k_mem) hob (by k_mem) (by k_mem) ?_ (mv_step im _ _ _ _) (by omega) (.inl rfl))
      exact fun H hs y q => hvs' H (fun o ho => hg _ _ (hs o ho) fun q => nt _ q _ (hs o ho) (by have := hs o ho; rw [er] at this; cases this; rfl)) y q
    · have q2 : (word != Str.ofString "get_level") = false := by assumption
      have im : isMv i = false := by
        rcases h : isMv i with _ | _
        · rfl
        · rw [bne, ← hw, w_lev, not_mv_lev h] at q2
          exact absurd q2.symm Bool.false_ne_true
      exact hJn _ _ (by assumption) (newsSub (by assumption) (fun p hp => .tail _ hp)) im
    · have q1 : ([Str.ofString "get_", Str.ofString "put_"].any fun x => x == Txt.slice word none (some 4)) = false := by assumption
      have im : isMv i = false := by
        rw [← hw, w_any] at q1
        exact (Bool.or_eq_false_iff.mp q1).1
      exact hJn _ _ (by assumption) (newsSub (by assumption) (fun p hp => .tail _ hp)) im
  · intro h' tk' F N im
    repeat' (first | walk_at "my step")
    · refine alloc_data (by rw [hw]; assumption) hr hi fun n1 tw' t9 ei er' i1 i2 => ?_
      replace htup := tup_of (hg _ _ er' fun q => nt _ q _ er' rfl)
      (repeat' (first | walk_at "my step" | (((fail_if_success (fail_if_success (with_reducible show wpAny _ _ (call (Value.ref 390) _) _ _ _))); refine lawread_use (by assumption) (by assumption) (by assumption) (by assumption) rfl rfl rfl rfl (Nat.le_of_ble_eq_true rfl) (Nat.le_of_ble_eq_true rfl) (by assumption) (by assumption) (by assumption) (by k_mem) (by k_mem) (by assumption) (by assumption) (by assumption) (by assumption) ?_; intro t'_m h'_m tk'_m F'_m N'_m; (try dsimp only at N'_m); (try dsimp only); (try k_sweep))) | (((fail_if_success (fail_if_success (with_reducible show wpAny _ _ (call (Value.ref 397) _) _ _ _))); refine' lawwrite_use (by assumption) (by assumption) (by assumption) (by assumption) rfl rfl rfl rfl (Nat.le_of_ble_eq_true rfl) (Nat.le_of_ble_eq_true rfl) (by assumption) ?hl (by assumption) (by assumption) (by k_mem) ?hU (by assumption) (by assumption) (by assumption) (by assumption) ?_; (case hl => omega); (case hU => (intro _; k_upd)); intro t'_m h'_m tk'_m vs'_m n'_m hvs'_m hls'_m F'_m N'_m; (have hvg' := hvs'_m _ (by assumption) (by assumption)); (try dsimp only at N'_m); (try dsimp only); (try k_sweep))) | (((fail_if_success (fail_if_success (with_reducible show wpAny _ _ (call (Value.ref 404) _) _ _ _))); refine lawlack_use (by assumption) (by assumption) (by assumption) (by assumption) rfl rfl rfl rfl (Nat.le_of_ble_eq_true rfl) (Nat.le_of_ble_eq_true rfl) (by assumption) (by assumption) (by assumption) (by k_mem) (by k_mem) (by assumption) (by omega) ?_; intro t'_m h'_m tk'_m F'_m N'_m; (try dsimp only at N'_m); (try dsimp only); (try k_sweep))) | (((fail_if_success (fail_if_success (with_reducible show wpAny _ _ (call (Value.ref 416) _) _ _ _))); refine' lawmoved_use (by assumption) (by assumption) (by assumption) (by assumption) rfl rfl rfl rfl (Nat.le_of_ble_eq_true rfl) (Nat.le_of_ble_eq_true rfl) (by assumption) ?hl (by assumption) (by assumption) (by k_mem) ?hU (by assumption) (by assumption) (by assumption) (by exact trivial) (by assumption) ?_; (case hl => omega); (case hU => (intro _; k_upd)); intro t'_m h'_m tk'_m vs'_m n'_m hvs'_m hls'_m F'_m N'_m; (try dsimp only at N'_m); (try dsimp only); (try k_sweep))) | (((fail_if_success (fail_if_success (with_reducible show wpAny _ _ (call (Value.ref 409) _) _ _ _))); refine' lawcalled_use (by assumption) (by assumption) (by assumption) (by assumption) rfl rfl rfl rfl (Nat.le_of_ble_eq_true rfl) (Nat.le_of_ble_eq_true rfl) (by assumption) ?hl (by assumption) (by assumption) ?hU (by k_mem) (by assumption) (by omega) (by omega) (by assumption) ?_; (case hl => omega); (case hU => (intro _; k_upd)); intro t'_m h'_m tk'_m ob'_m fl'_m vs'_m n'_m hd'_m hvs'_m hls'_m F'_m N'_m ne'_m; (try dsimp only at N'_m); (try dsimp only)))))
      exact fin _ _ _ _ _ _ _ _ _ _ _ _ _ _ _ (by assumption) (by assumption) (by k_mem) (by assumption) (by k_mem) (by k_mem) (fun H _ y _ => y) (by rw [ei]; first | rfl | (simp only [lawStepped]; rw [if_pos (by omega)]; done) | (simp only [lawStepped]; rw [if_neg (by omega)]; done)) (by omega) (.inl rfl)
    · refine alloc_data (by rw [hw]; assumption) hr hi fun n1 tw' t9 ei er' i1 i2 => ?_
      replace htup := tup_of (hg _ _ er' fun q => nt _ q _ er' rfl)
      (repeat' (first | walk_at "my step" | (((fail_if_success (fail_if_success (with_reducible show wpAny _ _ (call (Value.ref 390) _) _ _ _))); refine lawread_use (by assumption) (by assumption) (by assumption) (by assumption) rfl rfl rfl rfl (Nat.le_of_ble_eq_true rfl) (Nat.le_of_ble_eq_true rfl) (by assumption) (by assumption) (by assumption) (by k_mem) (by k_mem) (by assumption) (by assumption) (by assumption) (by assumption) ?_; intro t'_m h'_m tk'_m F'_m N'_m; (try dsimp only at N'_m); (try dsimp only); (try k_sweep))) | (((fail_if_success (fail_if_success (with_reducible show wpAny _ _ (call (Value.ref 397) _) _ _ _))); refine' lawwrite_use (by assumption) (by assumption) (by assumption) (by assumption) rfl rfl rfl rfl (Nat.le_of_ble_eq_true rfl) (Nat.le_of_ble_eq_true rfl) (by assumption) ?hl (by assumption) (by assumption) (by k_mem) ?hU (by assumption) (by assumption) (by assumption) (by assumption) ?_; (case hl => omega); (case hU => (intro _; k_upd)); intro t'_m h'_m tk'_m vs'_m n'_m hvs'_m hls'_m F'_m N'_m; (have hvg' := hvs'_m _ (by assumption) (by assumption)); (try dsimp only at N'_m); (try dsimp only); (try k_sweep))) | (((fail_if_success (fail_if_success (with_reducible show wpAny _ _ (call (Value.ref 404) _) _ _ _))); refine lawlack_use (by assumption) (by assumption) (by assumption) (by assumption) rfl rfl rfl rfl (Nat.le_of_ble_eq_true rfl) (Nat.le_of_ble_eq_true rfl) (by assumption) (by assumption) (by assumption) (by k_mem) (by k_mem) (by assumption) (by omega) ?_; intro t'_m h'_m tk'_m F'_m N'_m; (try dsimp only at N'_m); (try dsimp only); (try k_sweep))) | (((fail_if_success (fail_if_success (with_reducible show wpAny _ _ (call (Value.ref 416) _) _ _ _))); refine' lawmoved_use (by assumption) (by assumption) (by assumption) (by assumption) rfl rfl rfl rfl (Nat.le_of_ble_eq_true rfl) (Nat.le_of_ble_eq_true rfl) (by assumption) ?hl (by assumption) (by assumption) (by k_mem) ?hU (by assumption) (by assumption) (by assumption) (by exact trivial) (by assumption) ?_; (case hl => omega); (case hU => (intro _; k_upd)); intro t'_m h'_m tk'_m vs'_m n'_m hvs'_m hls'_m F'_m N'_m; (try dsimp only at N'_m); (try dsimp only); (try k_sweep))) | (((fail_if_success (fail_if_success (with_reducible show wpAny _ _ (call (Value.ref 409) _) _ _ _))); refine' lawcalled_use (by assumption) (by assumption) (by assumption) (by assumption) rfl rfl rfl rfl (Nat.le_of_ble_eq_true rfl) (Nat.le_of_ble_eq_true rfl) (by assumption) ?hl (by assumption) (by assumption) ?hU (by k_mem) (by assumption) (by omega) (by omega) (by assumption) ?_; (case hl => omega); (case hU => (intro _; k_upd)); intro t'_m h'_m tk'_m ob'_m fl'_m vs'_m n'_m hd'_m hvs'_m hls'_m F'_m N'_m ne'_m; (try dsimp only at N'_m); (try dsimp only)))))
      exact fin _ _ _ _ _ _ _ _ _ _ _ _ _ _ _ (by assumption) (by assumption) (by k_mem) (by assumption) (by k_mem) (by k_mem) (fun H _ y _ => y) (by rw [ei]; first | rfl | (simp only [lawStepped]; rw [if_pos (by omega)]; done) | (simp only [lawStepped]; rw [if_neg (by omega)]; done)) (by omega) (.inl rfl)
    · have ei := wi_dea (i := i) (by rw [hw]; assumption)
      (refine' comp_filter (g := g) (L := L) (pr := (·.1)) rfl rfl (by decide) rfl (by decide) rfl (by decide) ?_ (fun _ => rfl); (repeat' (walk_at "my step")); refine FiltAt.mk (by assumption) (by assumption) (by k_mem) hv (by omega) ?_ ?_)
      · intro C' a b k s₂ m₂ E' (hr : IsRg g a b k) _ F₂ hone
        obtain ⟨t1, t2, htup⟩ := hr.tup
        have htup' := Fr.tup (h₀ := g) (L := L) (by assumption) htup
        exact x_test rfl rfl htup' F₂ hone (Nat.le_of_ble_eq_true rfl)
      · intro D ys n' h' tk' F₂ N₂ (ne : ∀ p ∈ _, Prod.fst p ≠ D) hys hle
        k_sweep
        have ne' := allNe_of ne
        dsimp only [AllNe] at ne'
        (repeat' (walk_at "my step"))
        exact fin _ _ _ _ _ D ys n' _ _ _ _ _ _ _ (by assumption) (by assumption) (by k_mem) (by assumption) (by k_mem) (by k_mem) (fun H _ y _ => hys H y) (by rw [ei]; first | rfl | (simp only [lawStepped]; rw [if_pos (by omega)]; done) | (simp only [lawStepped]; rw [if_neg (by omega)]; done)) (by omega) (.inr ⟨by first | exact (by assumption : ∀ p ∈ _, Prod.fst p ≠ _) (bk, _) (by k_mem) | omega, by first | exact (by assumption : ∀ p ∈ _, Prod.fst p ≠ _) (fl, _) (by k_mem) | omega, by first | exact (by assumption : ∀ p ∈ _, Prod.fst p ≠ _) (sz, _) (by k_mem) | omega⟩)
    · have ei := wi_dea (i := i) (by rw [hw]; assumption)
      (refine' comp_filter (g := g) (L := L) (pr := (·.1)) rfl rfl (by decide) rfl (by decide) rfl (by decide) ?_ (fun _ => rfl); (repeat' (walk_at "my step")); refine FiltAt.mk (by assumption) (by assumption) (by k_mem) hv (by omega) ?_ ?_)
      · intro C' a b k s₂ m₂ E' (hr : IsRg g a b k) _ F₂ hone
        obtain ⟨t1, t2, htup⟩ := hr.tup
        have htup' := Fr.tup (h₀ := g) (L := L) (by assumption) htup
        exact x_test rfl rfl htup' F₂ hone (Nat.le_of_ble_eq_true rfl)
      · intro D ys n' h' tk' F₂ N₂ (ne : ∀ p ∈ _, Prod.fst p ≠ D) hys hle
        k_sweep
        have ne' := allNe_of ne
        dsimp only [AllNe] at ne'
        (repeat' (walk_at "my step"))
        exact fin _ _ _ _ _ D ys n' _ _ _ _ _ _ _ (by assumption) (by assumption) (by k_mem) (by assumption) (by k_mem) (by k_mem) (fun H _ y _ => hys H y) (by rw [ei]; first | rfl | (simp only [lawStepped]; rw [if_pos (by omega)]; done) | (simp only [lawStepped]; rw [if_neg (by omega)]; done)) (by omega) (.inr ⟨by first | exact (by assumption : ∀ p ∈ _, Prod.fst p ≠ _) (bk, _) (by k_mem) | omega, by first | exact (by assumption : ∀ p ∈ _, Prod.fst p ≠ _) (fl, _) (by k_mem) | omega, by first | exact (by assumption : ∀ p ∈ _, Prod.fst p ≠ _) (sz, _) (by k_mem) | omega⟩)
    · refine call_data (by rw [hw]; assumption) hr hi fun a1 n1 tw' t9 t10 ei er' i1 i2 i3 i4 => ?_
      replace htup := tup_of (hg _ _ er' fun q => nt _ q _ er' rfl)
      refine sz_at (t0 := t0) (t1 := t1) (t2 := t2) ⟨i1, i2⟩ |>.elim fun tz htz => ?_
      (repeat' (first | walk_at "my step" | (((fail_if_success (fail_if_success (with_reducible show wpAny _ _ (call (Value.ref 390) _) _ _ _))); refine lawread_use (by assumption) (by assumption) (by assumption) (by assumption) rfl rfl rfl rfl (Nat.le_of_ble_eq_true rfl) (Nat.le_of_ble_eq_true rfl) (by assumption) (by assumption) (by assumption) (by k_mem) (by k_mem) (by assumption) (by assumption) (by assumption) (by assumption) ?_; intro t'_m h'_m tk'_m F'_m N'_m; (try dsimp only at N'_m); (try dsimp only); (try k_sweep))) | (((fail_if_success (fail_if_success (with_reducible show wpAny _ _ (call (Value.ref 397) _) _ _ _))); refine' lawwrite_use (by assumption) (by assumption) (by assumption) (by assumption) rfl rfl rfl rfl (Nat.le_of_ble_eq_true rfl) (Nat.le_of_ble_eq_true rfl) (by assumption) ?hl (by assumption) (by assumption) (by k_mem) ?hU (by assumption) (by assumption) (by assumption) (by assumption) ?_; (case hl => omega); (case hU => (intro _; k_upd)); intro t'_m h'_m tk'_m vs'_m n'_m hvs'_m hls'_m F'_m N'_m; (have hvg' := hvs'_m _ (by assumption) (by assumption)); (try dsimp only at N'_m); (try dsimp only); (try k_sweep))) | (((fail_if_success (fail_if_success (with_reducible show wpAny _ _ (call (Value.ref 404) _) _ _ _))); refine lawlack_use (by assumption) (by assumption) (by assumption) (by assumption) rfl rfl rfl rfl (Nat.le_of_ble_eq_true rfl) (Nat.le_of_ble_eq_true rfl) (by assumption) (by assumption) (by assumption) (by k_mem) (by k_mem) (by assumption) (by omega) ?_; intro t'_m h'_m tk'_m F'_m N'_m; (try dsimp only at N'_m); (try dsimp only); (try k_sweep))) | (((fail_if_success (fail_if_success (with_reducible show wpAny _ _ (call (Value.ref 416) _) _ _ _))); refine' lawmoved_use (by assumption) (by assumption) (by assumption) (by assumption) rfl rfl rfl rfl (Nat.le_of_ble_eq_true rfl) (Nat.le_of_ble_eq_true rfl) (by assumption) ?hl (by assumption) (by assumption) (by k_mem) ?hU (by assumption) (by assumption) (by assumption) (by exact trivial) (by assumption) ?_; (case hl => omega); (case hU => (intro _; k_upd)); intro t'_m h'_m tk'_m vs'_m n'_m hvs'_m hls'_m F'_m N'_m; (try dsimp only at N'_m); (try dsimp only); (try k_sweep))) | (((fail_if_success (fail_if_success (with_reducible show wpAny _ _ (call (Value.ref 409) _) _ _ _))); refine' lawcalled_use (by assumption) (by assumption) (by assumption) (by assumption) rfl rfl rfl rfl (Nat.le_of_ble_eq_true rfl) (Nat.le_of_ble_eq_true rfl) (by assumption) ?hl (by assumption) (by assumption) ?hU (by k_mem) (by assumption) (by omega) (by omega) (by assumption) ?_; (case hl => omega); (case hU => (intro _; k_upd)); intro t'_m h'_m tk'_m ob'_m fl'_m vs'_m n'_m hd'_m hvs'_m hls'_m F'_m N'_m ne'_m; (try dsimp only at N'_m); (try dsimp only)))))
      exact fin _ _ _ _ _ _ _ _ _ _ _ _ _ _ _ (by assumption) (by assumption) (by k_mem) (by assumption) (by k_mem) (by k_mem) (fun H _ y _ => (by assumption : ∀ H, RegsAre H vs rs → RegsAre H _ (rs.filter (keptBy n1))) H y) (by rw [ei]; rfl) (by omega) (.inr ⟨by first | exact (by assumption : ∀ p ∈ _, Prod.fst p ≠ _) (bk, _) (by k_mem) | omega, by first | exact (by assumption : ∀ p ∈ _, Prod.fst p ≠ _) (fl, _) (by k_mem) | omega, by first | exact (by assumption : ∀ p ∈ _, Prod.fst p ≠ _) (sz, _) (by k_mem) | omega⟩)
    · refine blt_data (by rw [hw]; assumption) hr hi fun a1 tw' t9 ei er' i1 i2 => ?_
      replace htup := tup_of (hg _ _ er' fun q => nt _ q _ er' rfl)
      refine sz_at (t0 := t0) (t1 := t1) (t2 := t2) ⟨i1, i2⟩ |>.elim fun tz htz => ?_
      (repeat' (first | walk_at "my step" | (((fail_if_success (fail_if_success (with_reducible show wpAny _ _ (call (Value.ref 390) _) _ _ _))); refine lawread_use (by assumption) (by assumption) (by assumption) (by assumption) rfl rfl rfl rfl (Nat.le_of_ble_eq_true rfl) (Nat.le_of_ble_eq_true rfl) (by assumption) (by assumption) (by assumption) (by k_mem) (by k_mem) (by assumption) (by assumption) (by assumption) (by assumption) ?_; intro t'_m h'_m tk'_m F'_m N'_m; (try dsimp only at N'_m); (try dsimp only); (try k_sweep))) | (((fail_if_success (fail_if_success (with_reducible show wpAny _ _ (call (Value.ref 397) _) _ _ _))); refine' lawwrite_use (by assumption) (by assumption) (by assumption) (by assumption) rfl rfl rfl rfl (Nat.le_of_ble_eq_true rfl) (Nat.le_of_ble_eq_true rfl) (by assumption) ?hl (by assumption) (by assumption) (by k_mem) ?hU (by assumption) (by assumption) (by assumption) (by assumption) ?_; (case hl => omega); (case hU => (intro _; k_upd)); intro t'_m h'_m tk'_m vs'_m n'_m hvs'_m hls'_m F'_m N'_m; (have hvg' := hvs'_m _ (by assumption) (by assumption)); (try dsimp only at N'_m); (try dsimp only); (try k_sweep))) | (((fail_if_success (fail_if_success (with_reducible show wpAny _ _ (call (Value.ref 404) _) _ _ _))); refine lawlack_use (by assumption) (by assumption) (by assumption) (by assumption) rfl rfl rfl rfl (Nat.le_of_ble_eq_true rfl) (Nat.le_of_ble_eq_true rfl) (by assumption) (by assumption) (by assumption) (by k_mem) (by k_mem) (by assumption) (by omega) ?_; intro t'_m h'_m tk'_m F'_m N'_m; (try dsimp only at N'_m); (try dsimp only); (try k_sweep))) | (((fail_if_success (fail_if_success (with_reducible show wpAny _ _ (call (Value.ref 416) _) _ _ _))); refine' lawmoved_use (by assumption) (by assumption) (by assumption) (by assumption) rfl rfl rfl rfl (Nat.le_of_ble_eq_true rfl) (Nat.le_of_ble_eq_true rfl) (by assumption) ?hl (by assumption) (by assumption) (by k_mem) ?hU (by assumption) (by assumption) (by assumption) (by exact trivial) (by assumption) ?_; (case hl => omega); (case hU => (intro _; k_upd)); intro t'_m h'_m tk'_m vs'_m n'_m hvs'_m hls'_m F'_m N'_m; (try dsimp only at N'_m); (try dsimp only); (try k_sweep))) | (((fail_if_success (fail_if_success (with_reducible show wpAny _ _ (call (Value.ref 409) _) _ _ _))); refine' lawcalled_use (by assumption) (by assumption) (by assumption) (by assumption) rfl rfl rfl rfl (Nat.le_of_ble_eq_true rfl) (Nat.le_of_ble_eq_true rfl) (by assumption) ?hl (by assumption) (by assumption) ?hU (by k_mem) (by assumption) (by omega) (by omega) (by assumption) ?_; (case hl => omega); (case hU => (intro _; k_upd)); intro t'_m h'_m tk'_m ob'_m fl'_m vs'_m n'_m hd'_m hvs'_m hls'_m F'_m N'_m ne'_m; (try dsimp only at N'_m); (try dsimp only)))))
      exact fin _ _ _ _ _ _ _ _ _ _ _ _ _ _ _ (by assumption) (by assumption) (by k_mem) (by assumption) (by k_mem) (by k_mem) (fun H _ y _ => y) (by rw [ei]; rfl) (by omega) (.inl rfl)
    · refine lev_data (by rw [hw]; assumption) hr hi fun b k tw' a ei er' ha i1 => ?_
      replace htup := tup_of (hg _ _ er' fun q => nt _ q _ er' rfl)
      replace ha := ha.keep hg nt
      (repeat' (first | walk_at "my step" | (((fail_if_success (fail_if_success (with_reducible show wpAny _ _ (call (Value.ref 390) _) _ _ _))); refine lawread_use (by assumption) (by assumption) (by assumption) (by assumption) rfl rfl rfl rfl (Nat.le_of_ble_eq_true rfl) (Nat.le_of_ble_eq_true rfl) (by assumption) (by assumption) (by assumption) (by k_mem) (by k_mem) (by assumption) (by assumption) (by assumption) (by assumption) ?_; intro t'_m h'_m tk'_m F'_m N'_m; (try dsimp only at N'_m); (try dsimp only); (try k_sweep))) | (((fail_if_success (fail_if_success (with_reducible show wpAny _ _ (call (Value.ref 397) _) _ _ _))); refine' lawwrite_use (by assumption) (by assumption) (by assumption) (by assumption) rfl rfl rfl rfl (Nat.le_of_ble_eq_true rfl) (Nat.le_of_ble_eq_true rfl) (by assumption) ?hl (by assumption) (by assumption) (by k_mem) ?hU (by assumption) (by assumption) (by assumption) (by assumption) ?_; (case hl => omega); (case hU => (intro _; k_upd)); intro t'_m h'_m tk'_m vs'_m n'_m hvs'_m hls'_m F'_m N'_m; (have hvg' := hvs'_m _ (by assumption) (by assumption)); (try dsimp only at N'_m); (try dsimp only); (try k_sweep))) | (((fail_if_success (fail_if_success (with_reducible show wpAny _ _ (call (Value.ref 404) _) _ _ _))); refine lawlack_use (by assumption) (by assumption) (by assumption) (by assumption) rfl rfl rfl rfl (Nat.le_of_ble_eq_true rfl) (Nat.le_of_ble_eq_true rfl) (by assumption) (by assumption) (by assumption) (by k_mem) (by k_mem) (by assumption) (by omega) ?_; intro t'_m h'_m tk'_m F'_m N'_m; (try dsimp only at N'_m); (try dsimp only); (try k_sweep))) | (((fail_if_success (fail_if_success (with_reducible show wpAny _ _ (call (Value.ref 416) _) _ _ _))); refine' lawmoved_use (by assumption) (by assumption) (by assumption) (by assumption) rfl rfl rfl rfl (Nat.le_of_ble_eq_true rfl) (Nat.le_of_ble_eq_true rfl) (by assumption) ?hl (by assumption) (by assumption) (by k_mem) ?hU (by assumption) (by assumption) (by assumption) (by exact trivial) (by assumption) ?_; (case hl => omega); (case hU => (intro _; k_upd)); intro t'_m h'_m tk'_m vs'_m n'_m hvs'_m hls'_m F'_m N'_m; (try dsimp only at N'_m); (try dsimp only); (try k_sweep))) | (((fail_if_success (fail_if_success (with_reducible show wpAny _ _ (call (Value.ref 409) _) _ _ _))); refine' lawcalled_use (by assumption) (by assumption) (by assumption) (by assumption) rfl rfl rfl rfl (Nat.le_of_ble_eq_true rfl) (Nat.le_of_ble_eq_true rfl) (by assumption) ?hl (by assumption) (by assumption) ?hU (by k_mem) (by assumption) (by omega) (by omega) (by assumption) ?_; (case hl => omega); (case hU => (intro _; k_upd)); intro t'_m h'_m tk'_m ob'_m fl'_m vs'_m n'_m hd'_m hvs'_m hls'_m F'_m N'_m ne'_m; (try dsimp only at N'_m); (try dsimp only)))))
      exact fin _ _ _ _ _ _ _ _ _ _ _ _ _ _ _ (by assumption) (by assumption) (by k_mem) (by assumption) (by k_mem) (by k_mem) (fun H hs y q => (by assumption : ∀ H, RegsAre H vs rs → IsRg H a b k → RegsAre H _ (lawWriting rs room b k).1) H y (by rw [ei] at q; obtain ⟨_, a', e', ha'⟩ := q; have q := tup2 hs er' e'; rw [q] at ha'; exact ha')) (by rw [ei]; rfl) (by omega) (.inl rfl)
    · refine cut_data (by rw [hw]; assumption) hr hi fun b k tw' a ei er' ha i1 => ?_
      replace htup := tup_of (hg _ _ er' fun q => nt _ q _ er' rfl)
      replace ha := ha.keep hg nt
      (repeat' (first | walk_at "my step" | (((fail_if_success (fail_if_success (with_reducible show wpAny _ _ (call (Value.ref 390) _) _ _ _))); refine lawread_use (by assumption) (by assumption) (by assumption) (by assumption) rfl rfl rfl rfl (Nat.le_of_ble_eq_true rfl) (Nat.le_of_ble_eq_true rfl) (by assumption) (by assumption) (by assumption) (by k_mem) (by k_mem) (by assumption) (by assumption) (by assumption) (by assumption) ?_; intro t'_m h'_m tk'_m F'_m N'_m; (try dsimp only at N'_m); (try dsimp only); (try k_sweep))) | (((fail_if_success (fail_if_success (with_reducible show wpAny _ _ (call (Value.ref 397) _) _ _ _))); refine' lawwrite_use (by assumption) (by assumption) (by assumption) (by assumption) rfl rfl rfl rfl (Nat.le_of_ble_eq_true rfl) (Nat.le_of_ble_eq_true rfl) (by assumption) ?hl (by assumption) (by assumption) (by k_mem) ?hU (by assumption) (by assumption) (by assumption) (by assumption) ?_; (case hl => omega); (case hU => (intro _; k_upd)); intro t'_m h'_m tk'_m vs'_m n'_m hvs'_m hls'_m F'_m N'_m; (have hvg' := hvs'_m _ (by assumption) (by assumption)); (try dsimp only at N'_m); (try dsimp only); (try k_sweep))) | (((fail_if_success (fail_if_success (with_reducible show wpAny _ _ (call (Value.ref 404) _) _ _ _))); refine lawlack_use (by assumption) (by assumption) (by assumption) (by assumption) rfl rfl rfl rfl (Nat.le_of_ble_eq_true rfl) (Nat.le_of_ble_eq_true rfl) (by assumption) (by assumption) (by assumption) (by k_mem) (by k_mem) (by assumption) (by omega) ?_; intro t'_m h'_m tk'_m F'_m N'_m; (try dsimp only at N'_m); (try dsimp only); (try k_sweep))) | (((fail_if_success (fail_if_success (with_reducible show wpAny _ _ (call (Value.ref 416) _) _ _ _))); refine' lawmoved_use (by assumption) (by assumption) (by assumption) (by assumption) rfl rfl rfl rfl (Nat.le_of_ble_eq_true rfl) (Nat.le_of_ble_eq_true rfl) (by assumption) ?hl (by assumption) (by assumption) (by k_mem) ?hU (by assumption) (by assumption) (by assumption) (by exact trivial) (by assumption) ?_; (case hl => omega); (case hU => (intro _; k_upd)); intro t'_m h'_m tk'_m vs'_m n'_m hvs'_m hls'_m F'_m N'_m; (try dsimp only at N'_m); (try dsimp only); (try k_sweep))) | (((fail_if_success (fail_if_success (with_reducible show wpAny _ _ (call (Value.ref 409) _) _ _ _))); refine' lawcalled_use (by assumption) (by assumption) (by assumption) (by assumption) rfl rfl rfl rfl (Nat.le_of_ble_eq_true rfl) (Nat.le_of_ble_eq_true rfl) (by assumption) ?hl (by assumption) (by assumption) ?hU (by k_mem) (by assumption) (by omega) (by omega) (by assumption) ?_; (case hl => omega); (case hU => (intro _; k_upd)); intro t'_m h'_m tk'_m ob'_m fl'_m vs'_m n'_m hd'_m hvs'_m hls'_m F'_m N'_m ne'_m; (try dsimp only at N'_m); (try dsimp only)))))
      exact fin _ _ _ _ _ _ _ _ _ _ _ _ _ _ _ (by assumption) (by assumption) (by k_mem) (by assumption) (by k_mem) (by k_mem) (fun H _ y _ => y) (by rw [ei]; rfl) (by omega) (.inl rfl)
    · have q : ([Str.ofString "execute", Str.ofString "proceed"].any fun x => x == word) = true := by assumption
      rw [← hw, w_ep] at q
      exact fin _ _ _ _ _ _ _ _ _ _ _ _ _ _ _ (by assumption) (by assumption) (by k_mem) (by assumption) (by k_mem) (by k_mem) (fun H _ y _ => y) (ep_left q (by omega)) (by omega) (.inl rfl)
    · refine exec_data (by rw [hw]; assumption) hr hi fun a1 tw' t9 ei er' i1 i2 => ?_
      replace htup := tup_of (hg _ _ er' fun q => nt _ q _ er' rfl)
      refine sz_at (t0 := t0) (t1 := t1) (t2 := t2) ⟨i1, i2⟩ |>.elim fun tz htz => ?_
      (repeat' (first | walk_at "my step" | (((fail_if_success (fail_if_success (with_reducible show wpAny _ _ (call (Value.ref 390) _) _ _ _))); refine lawread_use (by assumption) (by assumption) (by assumption) (by assumption) rfl rfl rfl rfl (Nat.le_of_ble_eq_true rfl) (Nat.le_of_ble_eq_true rfl) (by assumption) (by assumption) (by assumption) (by k_mem) (by k_mem) (by assumption) (by assumption) (by assumption) (by assumption) ?_; intro t'_m h'_m tk'_m F'_m N'_m; (try dsimp only at N'_m); (try dsimp only); (try k_sweep))) | (((fail_if_success (fail_if_success (with_reducible show wpAny _ _ (call (Value.ref 397) _) _ _ _))); refine' lawwrite_use (by assumption) (by assumption) (by assumption) (by assumption) rfl rfl rfl rfl (Nat.le_of_ble_eq_true rfl) (Nat.le_of_ble_eq_true rfl) (by assumption) ?hl (by assumption) (by assumption) (by k_mem) ?hU (by assumption) (by assumption) (by assumption) (by assumption) ?_; (case hl => omega); (case hU => (intro _; k_upd)); intro t'_m h'_m tk'_m vs'_m n'_m hvs'_m hls'_m F'_m N'_m; (have hvg' := hvs'_m _ (by assumption) (by assumption)); (try dsimp only at N'_m); (try dsimp only); (try k_sweep))) | (((fail_if_success (fail_if_success (with_reducible show wpAny _ _ (call (Value.ref 404) _) _ _ _))); refine lawlack_use (by assumption) (by assumption) (by assumption) (by assumption) rfl rfl rfl rfl (Nat.le_of_ble_eq_true rfl) (Nat.le_of_ble_eq_true rfl) (by assumption) (by assumption) (by assumption) (by k_mem) (by k_mem) (by assumption) (by omega) ?_; intro t'_m h'_m tk'_m F'_m N'_m; (try dsimp only at N'_m); (try dsimp only); (try k_sweep))) | (((fail_if_success (fail_if_success (with_reducible show wpAny _ _ (call (Value.ref 416) _) _ _ _))); refine' lawmoved_use (by assumption) (by assumption) (by assumption) (by assumption) rfl rfl rfl rfl (Nat.le_of_ble_eq_true rfl) (Nat.le_of_ble_eq_true rfl) (by assumption) ?hl (by assumption) (by assumption) (by k_mem) ?hU (by assumption) (by assumption) (by assumption) (by exact trivial) (by assumption) ?_; (case hl => omega); (case hU => (intro _; k_upd)); intro t'_m h'_m tk'_m vs'_m n'_m hvs'_m hls'_m F'_m N'_m; (try dsimp only at N'_m); (try dsimp only); (try k_sweep))) | (((fail_if_success (fail_if_success (with_reducible show wpAny _ _ (call (Value.ref 409) _) _ _ _))); refine' lawcalled_use (by assumption) (by assumption) (by assumption) (by assumption) rfl rfl rfl rfl (Nat.le_of_ble_eq_true rfl) (Nat.le_of_ble_eq_true rfl) (by assumption) ?hl (by assumption) (by assumption) ?hU (by k_mem) (by assumption) (by omega) (by omega) (by assumption) ?_; (case hl => omega); (case hU => (intro _; k_upd)); intro t'_m h'_m tk'_m ob'_m fl'_m vs'_m n'_m hd'_m hvs'_m hls'_m F'_m N'_m ne'_m; (try dsimp only at N'_m); (try dsimp only)))))
      exact fin _ _ _ _ _ _ _ _ _ _ _ _ _ _ _ (by assumption) (by assumption) (by k_mem) (by assumption) (by k_mem) (by k_mem) (fun H _ y _ => y) (by rw [ei]; first | rfl | (simp only [lawStepped]; rw [if_pos (by omega)]; done) | (simp only [lawStepped]; rw [if_neg (by omega)]; done)) (by omega) (.inl rfl)
    · have q : ([Str.ofString "execute", Str.ofString "proceed"].any fun x => x == word) = true := by assumption
      rw [← hw, w_ep] at q
      have ei := ep_pro q (by rw [hw]; assumption)
      exact fin _ _ _ _ _ _ _ _ _ _ _ _ _ _ _ (by assumption) (by assumption) (by k_mem) (by assumption) (by k_mem) (by k_mem) (fun H _ y _ => y) (by rw [ei]; first | rfl | (simp only [lawStepped]; rw [if_pos (by omega)]; done) | (simp only [lawStepped]; rw [if_neg (by omega)]; done)) (by omega) (.inl rfl)
    · have ei := wi_fail (i := i) (by rw [hw]; assumption)
      exact fin _ _ _ _ _ _ _ _ _ _ _ _ _ _ _ (by assumption) (by assumption) (by k_mem) (by assumption) (by k_mem) (by k_mem) (fun H _ y _ => y) (by rw [ei]; first | rfl | (simp only [lawStepped]; rw [if_pos (by omega)]; done) | (simp only [lawStepped]; rw [if_neg (by omega)]; done)) (by omega) (.inl rfl)
    · have q : ([Str.ofString "execute", Str.ofString "proceed"].any fun x => x == word) = false := by assumption
      rw [← hw, w_ep] at q
      have ei := last_data im (by rw [hw]; assumption) (by rw [hw]; assumption) (by rw [hw]; assumption) q (by rw [hw]; assumption) (by rw [hw]; assumption) (by rw [hw]; assumption) (by rw [hw]; assumption)
      exact fin _ _ _ _ _ _ _ _ _ _ _ _ _ _ _ (by assumption) (by assumption) (by k_mem) (by assumption) (by k_mem) (by k_mem) (fun H _ y _ => y) (by rw [ei]; first | rfl | (simp only [lawStepped]; rw [if_pos (by omega)]; done) | (simp only [lawStepped]; rw [if_neg (by omega)]; done)) (by omega) (.inl rfl)
end
section
variable {w : World} {A A₀ : Around} {base g : Heap} {outer : List Env} {env : Env} {s : Shared} {p : Program} {loose : List Str} {mean : ExcName → Option Value} {mg mb : Str → Option Value}
  {R : Result → Shared → Prop} {Q E : Value → Shared → Prop} {L : Addr} {m : Str → Option Value} {news : List (Addr × Obj)}
/-- the tokens of a checker that never turn -/
structure CkT where
  (k1 k2 k3 k4 k5 k6 k7 k8 k9 t2 t3 t4 : Tok)
/-- what a checker knows -/
structure CkS where
  xs : List Int
  ys : List Int
  size : Int
  ended : Bool
  fault : Str
abbrev ent (w : World) (name : Str) (k : Tok) (v : Value) : DictEntry := ⟨PyData.keyHash w.params name, .str name k, v⟩
abbrev ckE (w : World) (T : CkT) (S X Y : Addr) (size : Int) (e : Bool) (ft : Str) (t1 t5 : Tok) : List DictEntry :=
  [ent w (Str.ofString "symbols") T.k1 (.ref S), ent w (Str.ofString "xs") T.k2 (.ref X), ent w (Str.ofString "ys") T.k3 (.ref Y), ent w (Str.ofString "size") T.k4 (.int size t1), ent w (Str.ofString "due") T.k5 (.int 0 T.t2),
    ent w (Str.ofString "family") T.k6 (.str (Str.ofString "") T.t3), ent w (Str.ofString "building") T.k7 (.int 0 T.t4), ent w (Str.ofString "ended") T.k8 (.bool e), ent w (Str.ofString "fault") T.k9 (.str ft t5)]
abbrev ckO (w : World) (T : CkT) (S X Y : Addr) (size : Int) (e : Bool) (ft : Str) (t1 t5 : Tok) : Obj := dictOf (ckE w T S X Y size e ft t1 t5) 9
theorem complain_spec {x dx S X Y : Addr} {T : CkT} {size : Int} {e : Bool} {ft tx : Str} {t1 t5 tt : Tok}
    (D : Rdy A base outer s.heap [(x, instObj 337 dx), (dx, ckO w T S X Y size e ft t1 t5)]) (C : Wd w base p loose mean mg mb) (hd : A.depth ≤ 590) (hu : A.units ≤ 1900) (hne : @Ne Nat x dx)
    (z : ∀ t5' h' tk', Keeps [dx] s.heap h' → h'.get? dx = some (ckO w T S X Y size e (if ft = Str.ofString "" then tx else ft) t1 t5') → R (.ok (.ret .none)) { s with heap := h', toks := tk' }) :
    codeAny (MM w) A (.call (.ref 257) ⟨[.ref x, .str tx tt], []⟩) R s := by
  refine' enter 590 1900 (binds := [(Str.ofString "self", .ref x), (Str.ofString "text", .str tx tt)]) D C.X C.T hd hu ?k6 ?k7 ?k8 ?k9 ?kB ?_ ?c2 ?c3 ?c4 ?c5
  walk_at "my enter"
  intro g L h₁ tk eL hg hgs F N l1 B X T env1
  have at0 := D.at_
  clear D
  k_lt l1
  (repeat' (walk_at "my step"))
  all_goals first
    | (have hf : (ft == Str.ofString "") = true := by assumption
       exact z _ _ _ (keepsM at0 hg (by assumption) (by assumption) [dx] (by
        intro p hp
        rcases List.mem_cons.mp hp with rfl | hp
        · exact .inr (by k_mem)
        · rw [List.mem_singleton.mp hp]; exact .inl (.head _))) (by rw [if_pos (beq_iff_eq.mp hf)]; exact News.get (by assumption) (by k_mem)))
    | (have hf : (ft == Str.ofString "") = false := by assumption
       exact z _ _ _ (keepsM at0 hg (by assumption) (by assumption) [dx] (by intro p hp; exact .inr hp)) (by rw [if_neg (beq_ne hf)]; exact News.get (by assumption) (by k_mem)))
def cpl (f t : Str) : Str := if f = Str.ofString "" then t else f
theorem complain_use {x dx S X Y : Addr} {T : CkT} {size : Int} {e : Bool} {ft tx : Str} {t1 t5 tt : Tok} {nf : Obj → List (Addr × Obj)}
    (B : Below A₀ base outer g) (F : Fr g L s.heap m) (N : News g L s.heap news) (C : Wd w base p loose mean mg mb)
    (hh : A.handled = none) (hA : A.frames = some (env :: outer)) (hf : env.frame = some L) (hke : env.scope.kind = .function)
    (hd : A.depth ≤ 590) (hu : A.units ≤ 1900) (m1 : (x, instObj 337 dx) ∈ news) (hne : @Ne Nat x dx) (U : ∀ o', Upd dx (ckO w T S X Y size e ft t1 t5) o' news (nf o'))
    (z : ∀ t5' h' tk', Fr g L h' m → News g L h' (nf (ckO w T S X Y size e (cpl ft tx) t1 t5')) → Q .none { s with heap := h', toks := tk' }) :
    wpAny (MM w) A (call (.ref 257) [.ref x, .str tx tt]) Q E s := by
  have m2 := updMem (U (ckO w T S X Y size e ft t1 t5))
  have hs : ∀ p ∈ [(x, instObj 337 dx), (dx, ckO w T S X Y size e ft t1 t5)], p ∈ news := by
    intro p hp
    rcases List.mem_cons.mp hp with rfl | hp
    · exact m1
    · rw [List.mem_singleton.mp hp]; exact m2
  have N1 := newsSub N hs
  have N2 : News g L s.heap [(dx, ckO w T S X Y size e ft t1 t5)] := newsSub N fun p hp => hs p (.tail _ hp)
  refine wpAny_call (complain_spec (Rdy.nest B F N1 hh hA hf hke) C hd hu hne fun t5' h' tk' hK hq => ?_)
  exact z t5' h' tk' (frAfter F N2 hK) (newsAfter1 N (U _) hK hq)
end
section
variable {w : World} {A A₀ : Around} {base g : Heap} {outer : List Env} {env : Env} {s : Shared} {p : Program} {loose : List Str} {mean : ExcName → Option Value} {mg mb : Str → Option Value}
  {R : Result → Shared → Prop} {Q E : Value → Shared → Prop} {L : Addr} {m : Str → Option Value} {news : List (Addr × Obj)}
theorem len_e1 {a : Str} (ha : a.length ≤ 100) : (Str.empty ++ a).length ≤ sizeLine := by
  have : Str.empty.length = 0 := rfl
  rw [Str.length_append, sizeLine_eq]; omega
theorem len_e2 {a b : Str} (ha : a.length ≤ 100) (hb : b.length ≤ 100) : (Str.empty ++ a ++ b).length ≤ sizeLine := by
  have : Str.empty.length = 0 := rfl
  rw [Str.length_append, Str.length_append, sizeLine_eq]; omega
theorem len_e3 {a b c : Str} (ha : a.length ≤ 100) (hb : b.length ≤ 100) (hc : c.length ≤ 100) : (Str.empty ++ a ++ b ++ c).length ≤ sizeLine := by
  have : Str.empty.length = 0 := rfl
  rw [Str.length_append, Str.length_append, Str.length_append, sizeLine_eq]; omega
theorem dig_len100 {k : Int} (h1 : 1 ≤ k) (h2 : k ≤ 3) : (Str.ofString (toString k)).length ≤ 100 := Nat.le_trans (dig_len h1 h2) (by decide)
end
local macro_rules | `(tactic| walk_at "And") => `(tactic| ((fail_if_success (fail_if_success (with_reducible show PySem.Str.length (_ ++ _) ≤ sizeLine ∧ wpAny _ _ (joinParts _ _) _ _ _))); refine ⟨?_, ?_⟩; · ((first | (with_reducible refine len_e1 ?_; (first | with_reducible assumption | exact le100 (by decide +kernel))) | (with_reducible refine len_e2 ?_ ?_ <;> (first | with_reducible assumption | exact le100 (by decide +kernel))) | (with_reducible refine len_e3 ?_ ?_ ?_ <;> (first | with_reducible assumption | exact le100 (by decide +kernel)))))))
local macro_rules | `(tactic| walk_at "joinParts") => `(tactic| ((first | (fail_if_success (fail_if_success (with_reducible show wpAny _ _ (joinParts _ []) _ _ _))) | ((fail_if_success (fail_if_success (with_reducible show wpAny _ _ (joinParts _ (evalEach [] _)) _ _ _))); with_reducible refine joinParts_nilE ?_)); with_reducible refine joinParts_nil (hsz := ?hsz) ?_; (case hsz => ((first | (with_reducible refine len_e1 ?_; (first | with_reducible assumption | exact le100 (by decide +kernel))) | (with_reducible refine len_e2 ?_ ?_ <;> (first | with_reducible assumption | exact le100 (by decide +kernel))) | (with_reducible refine len_e3 ?_ ?_ ?_ <;> (first | with_reducible assumption | exact le100 (by decide +kernel))))))))
local macro_rules | `(tactic| walk_at "my step") => `(tactic| ((fail_if_success (fail_if_success (with_reducible show ite (_ = true) _ _))); rw [if_neg]; rotate_left; (rw [beq_iff_eq]; omega); (try dsimp only)))
local macro_rules | `(tactic| walk_at "compareOp NotIn int ref") => `(tactic| ((fail_if_success (fail_if_success (with_reducible show wpAny _ _ (compareOp CmpOp.NotIn (Value.int _ _) (Value.ref _)) _ _ _))); refine kdg_notin (knd := PySem.intKind _ _) (by assumption) (by k_mem) (by assumption) (by assumption) (intKind_is _ _ _ _) _ rfl ?_))
section
variable {w : World} {A A₀ : Around} {base g : Heap} {outer : List Env} {env : Env} {s : Shared} {p : Program} {loose : List Str} {mean : ExcName → Option Value} {mg mb : Str → Option Value}
  {R : Result → Shared → Prop} {Q E : Value → Shared → Prop} {L : Addr} {m : Str → Option Value} {news : List (Addr × Obj)}
abbrev tr (xs : List Int) : List (Int × Value) := xs.map fun k => (k, Value.bool true)
theorem valueAt_tr (xs : List Int) (k : Int) : (valueAt (tr xs) k).isSome = decide (k ∈ xs) := by
  induction xs with
  | nil => rfl
  | cons a xs ih =>
    by_cases h : a = k
    · simp [tr, valueAt, h]
    · have h' : ¬ k = a := fun q => h q.symm
      simpa [tr, valueAt, h, h'] using ih
def cpo (f : Str) : Option Str → Str
  | none => f
  | some c => cpl f c
def spE (b : Bool) (k : Int) : Str := Str.empty ++ rn b ++ Str.ofString (toString k)
def ckRead (xs ys : List Int) (size : Int) (b : Bool) (k : Int) : Option Str :=
  if b = true then (if k ∈ xs then none else some (spE b k ++ Str.ofString " is read before it is written"))
  else if size < k then some (spE b k ++ Str.ofString " is read outside of the environment")
  else if k ∈ ys then none else some (spE b k ++ Str.ofString " is read before it is written")
abbrev Dist (x dx X Y : Nat) : Prop := x ≠ dx ∧ x ≠ X ∧ x ≠ Y ∧ dx ≠ X ∧ dx ≠ Y ∧ X ≠ Y
theorem Dist.both {x dx X Y : Nat} (h : Dist x dx X Y) : (x ≠ dx ∧ x ≠ X ∧ x ≠ Y ∧ dx ≠ X ∧ dx ≠ Y ∧ X ≠ Y) ∧ dx ≠ x ∧ X ≠ x ∧ Y ≠ x ∧ X ≠ dx ∧ Y ≠ dx ∧ Y ≠ X := ⟨h, h.1.symm, h.2.1.symm, h.2.2.1.symm, h.2.2.2.1.symm, h.2.2.2.2.1.symm, h.2.2.2.2.2.symm⟩
theorem Dist.elim {x dx X Y : Nat} {P : Prop} (h : Dist x dx X Y) (k : x ≠ dx → x ≠ X → x ≠ Y → dx ≠ X → dx ≠ Y → X ≠ Y → dx ≠ x → X ≠ x → Y ≠ x → X ≠ dx → Y ≠ dx → Y ≠ X → P) : P := k h.1 h.2.1 h.2.2.1 h.2.2.2.1 h.2.2.2.2.1 h.2.2.2.2.2 h.1.symm h.2.1.symm h.2.2.1.symm h.2.2.2.1.symm h.2.2.2.2.1.symm h.2.2.2.2.2.symm
theorem read_spec {x dx S X Y r : Addr} {T : CkT} {size : Int} {e b : Bool} {ft : Str} {t1 t5 : Tok} {oX oY : Obj} {xs ys : List Int} {k : Int}
    (D : Rdy A base outer s.heap [(x, instObj 337 dx), (dx, ckO w T S X Y size e ft t1 t5), (X, oX), (Y, oY)]) (C : Wd w base p loose mean mg mb) (hd : A.depth ≤ 580) (hu : A.units ≤ 1800) (hD : Dist x dx X Y)
    (hX : oX.IsDictOf (intKind PP w) (tr xs)) (hY : oY.IsDictOf (intKind PP w) (tr ys)) (lX : (X == sysModules) = false) (lY : (Y == sysModules) = false) (hr : IsRg s.heap r b k) (hk : RgOk b k) (hsize : -1 ≤ size ∧ size ≤ 3) (nt : NT s.heap [x, dx, X, Y])
    (z : ∀ t5' h' tk', Keeps [dx] s.heap h' → h'.get? dx = some (ckO w T S X Y size e (cpo ft (ckRead xs ys size b k)) t1 t5') → R (.ok (.ret .none)) { s with heap := h', toks := tk' }) :
    codeAny (MM w) A (.call (.ref 264) ⟨[.ref x, .ref r], []⟩) R s := by
  refine' enter 580 1800 (binds := [(Str.ofString "self", .ref x), (Str.ofString "register", .ref r)]) D C.X C.T hd hu ?k6 ?k7 ?k8 ?k9 ?kB ?_ ?c2 ?c3 ?c4 ?c5
  walk_at "my enter"
  intro g L h₁ tk eL hg hgs F N l1 B X' T' env1
  have at0 := D.at_
  clear D
  k_lt l1
  refine Dist.elim hD fun d1 d2 d3 d4 d5 d6 e1 e2 e3 e4 e5 e6 => ?_
  have hr := hr.keep hg nt
  obtain ⟨r1, r2, htup⟩ := hr.tup
  obtain ⟨k1, k3, k2⟩ := hk
  have hn2' := dig_len100 k1 k3
  have zz : ∀ f t5' h' tk', h'.get? dx = some (ckO w T S X Y size e f t1 t5') → f = cpo ft (ckRead xs ys size b k) → Keeps [dx] s.heap h' → R (.ok (.ret .none)) { s with heap := h', toks := tk' } := by
    intro f t5' h' tk' h1 h2 h3
    rw [h2] at h1
    exact z t5' h' tk' h3 h1
  cases b
  all_goals (repeat' (first | walk_at "my step" | (((fail_if_success (fail_if_success (with_reducible show wpAny _ _ (call (Value.ref 257) _) _ _ _))); refine' complain_use (by assumption) (by assumption) (by assumption) (by assumption) rfl rfl rfl rfl (Nat.le_of_ble_eq_true rfl) (Nat.le_of_ble_eq_true rfl) (by k_mem) (by assumption) ?hU ?_; (case hU => (intro _; k_upd)); intro t'_m h'_m tk'_m F'_m N'_m; (try dsimp only at N'_m); (try dsimp only); (try k_sweep)))))
  all_goals
    refine zz _ _ _ _ (News.get (by assumption) (by k_mem)) ?_ (keepsM at0 hg (by assumption) (by assumption) [dx] (by
      intro p hp
      rcases List.mem_cons.mp hp with rfl | hp
      · exact .inr (by k_mem)
      · rcases List.mem_cons.mp hp with rfl | hp
        · exact .inl (.head _)
        · rcases List.mem_cons.mp hp with rfl | hp
          · exact .inr (by k_mem)
          · rw [List.mem_singleton.mp hp]; exact .inr (by k_mem)))
  all_goals ((try simp only [valueAt_tr, decide_eq_true_eq, decide_eq_false_iff_not] at *); simp [ckRead, cpo, spE, rn, *])

theorem upd_mem {d : Addr} {o o' : Obj} {l l' : List (Addr × Obj)} (U : Upd d o o' l l') : ∀ p ∈ l', p = (d, o') ∨ (p ∈ l ∧ p.1 ≠ d) := by
  obtain ⟨pre, post, rfl, rfl, a, c⟩ := U.split
  intro p hp
  rcases List.mem_append.mp hp with hp | hp
  · exact .inr ⟨List.mem_append_left _ hp, a p hp⟩
  · rcases List.mem_cons.mp hp with rfl | hp
    · exact .inl rfl
    · exact .inr ⟨List.mem_append_right _ (.tail _ hp), c p hp⟩
/-- behind a call that turns three objects -/
theorem newsAfter3 {h h' : Heap} {a b c : Addr} {o1 o1' o2 o2' o3 o3' : Obj} {n1 n2 n3 : List (Addr × Obj)} (N : News g L h news) (U1 : Upd a o1 o1' news n1) (U2 : Upd b o2 o2' n1 n2) (U3 : Upd c o3 o3' n2 n3)
    (hK : Keeps [a, b, c] h h') (h1 : h'.get? a = some o1') (h2 : h'.get? b = some o2') (h3 : h'.get? c = some o3') : News g L h' n3 := by
  have m1 := updMem U1
  intro p hp
  have key : ∀ {q : Addr × Obj}, q ∈ n2 → q.1 ≠ c → h'.get? q.1 = some q.2 ∧ q.1 ≠ L ∧ g.get? q.1 = none := by
    intro q hq qc
    have key1 : ∀ {r : Addr × Obj}, r ∈ n1 → r.1 ≠ c → r.1 ≠ b → h'.get? r.1 = some r.2 ∧ r.1 ≠ L ∧ g.get? r.1 = none := by
      intro r hr rc rb
      rcases upd_mem U1 r hr with rfl | ⟨hr, ra⟩
      · exact ⟨h1, (N _ m1).2⟩
      · exact ⟨hK _ _ (N r hr).1 (by simp [ra, rb, rc]), (N r hr).2⟩
    rcases upd_mem U2 q hq with rfl | ⟨hq, qb⟩
    · refine ⟨h2, ?_⟩
      rcases upd_mem U1 _ (updMem U2) with e | ⟨hr, _⟩
      · have e1 : b = a := congrArg Prod.fst e
        subst e1; exact (N _ m1).2
      · exact (N _ hr).2
    · exact key1 hq qc qb
  rcases upd_mem U3 p hp with rfl | ⟨hp, pc⟩
  · refine ⟨h3, ?_⟩
    rcases upd_mem U2 _ (updMem U3) with e | ⟨hr, _⟩
    · have e1 : c = b := congrArg Prod.fst e
      subst e1
      rcases upd_mem U1 _ (updMem U2) with e | ⟨hr, _⟩
      · have e1 : c = a := congrArg Prod.fst e
        subst e1; exact (N _ m1).2
      · exact (N _ hr).2
    · rcases upd_mem U1 _ hr with e | ⟨hr, _⟩
      · have e1 : c = a := congrArg Prod.fst e
        subst e1; exact (N _ m1).2
      · exact (N _ hr).2
  · exact key hp pc
theorem up_keep {h h' : Heap} (hS : ∀ b o, h.get? b = some o → h'.get? b = some o) : Keeps [] h h' := fun b o e _ => hS b o e
theorem nt_nil {h : Heap} : NT h [] := fun _ q => nomatch q
theorem inst_cls {a : Nat} {dx : Addr} : (instObj a dx).cls ≠ .type "tuple" := by show Value.ref a ≠ _; intro e; cases e
theorem dictO_cls {es : List DictEntry} {n : Nat} : (dictOf es n).cls ≠ .type "tuple" := by show Value.type "dict" ≠ _; decide
theorem read_use {H : Heap} {x dx S X Y r : Addr} {T : CkT} {size : Int} {e b : Bool} {ft : Str} {t1 t5 : Tok} {oX oY : Obj} {xs ys : List Int} {k : Int} {nf : Obj → List (Addr × Obj)}
    (B : Below A₀ base outer g) (F : Fr g L s.heap m) (N : News g L s.heap news) (C : Wd w base p loose mean mg mb)
    (hh : A.handled = none) (hA : A.frames = some (env :: outer)) (hf : env.frame = some L) (hke : env.scope.kind = .function)
    (hd : A.depth ≤ 580) (hu : A.units ≤ 1800) (m1 : (x, instObj 337 dx) ∈ news) (U : ∀ o', Upd dx (ckO w T S X Y size e ft t1 t5) o' news (nf o')) (m3 : (X, oX) ∈ news) (m4 : (Y, oY) ∈ news) (hD : Dist x dx X Y)
    (hX : oX.IsDictOf (intKind PP w) (tr xs)) (hY : oY.IsDictOf (intKind PP w) (tr ys)) (lX : (X == sysModules) = false) (lY : (Y == sysModules) = false) (hr : IsRg H r b k) (hS : ∀ b o, H.get? b = some o → s.heap.get? b = some o) (hk : RgOk b k) (hsize : -1 ≤ size ∧ size ≤ 3)
    (z : ∀ t5' h' tk', Fr g L h' m → News g L h' (nf (ckO w T S X Y size e (cpo ft (ckRead xs ys size b k)) t1 t5')) → Q .none { s with heap := h', toks := tk' }) :
    wpAny (MM w) A (call (.ref 264) [.ref x, .ref r]) Q E s := by
  have m2 := updMem (U (ckO w T S X Y size e ft t1 t5))
  have hs : ∀ p ∈ [(x, instObj 337 dx), (dx, ckO w T S X Y size e ft t1 t5), (X, oX), (Y, oY)], p ∈ news := by
    refine allC ?_ (allC ?_ (allC ?_ (allC ?_ (allE)))) <;> assumption
  have N1 := newsSub N hs
  have N2 : News g L s.heap [(dx, ckO w T S X Y size e ft t1 t5)] := newsSub N fun p hp => hs p (by rw [List.mem_singleton.mp hp]; simp)
  have nt : NT s.heap [x, dx, X, Y] := nt_of (mods := [(x, instObj 337 dx), (dx, ckO w T S X Y size e ft t1 t5), (X, oX), (Y, oY)]) (fun p hp => (N1 p hp).1) (by
    refine allC ?_ (allC ?_ (allC ?_ (allC ?_ (allE))))
    · exact inst_cls
    · exact dictO_cls
    · exact dict_cls hX
    · exact dict_cls hY)
  refine wpAny_call (read_spec (Rdy.nest B F N1 hh hA hf hke) C hd hu hD hX hY lX lY (hr.keep (up_keep hS) nt_nil) hk hsize nt fun t5' h' tk' hK hq => ?_)
  exact z t5' h' tk' (frAfter F N2 hK) (newsAfter1 N (U _) hK hq)
end
section
variable {w : World} {A A₀ : Around} {base g : Heap} {outer : List Env} {env : Env} {s : Shared} {p : Program} {loose : List Str} {mean : ExcName → Option Value} {mg mb : Str → Option Value}
  {R : Result → Shared → Prop} {Q E : Value → Shared → Prop} {L : Addr} {m : Str → Option Value} {news : List (Addr × Obj)}
def put (xs : List Int) (k : Int) : List Int := if k ∈ xs then xs else xs ++ [k]
theorem stored_tr (xs : List Int) (k : Int) : stored (tr xs) k (.bool true) = tr (put xs k) := by
  have e : ((tr xs).any fun kv => decide (kv.1 = k)) = decide (k ∈ xs) := by
    induction xs with
    | nil => rfl
    | cons a xs ih =>
      rw [show tr (a :: xs) = (a, Value.bool true) :: tr xs from rfl, List.any_cons, ih, ← Bool.decide_or]
      exact decide_eq_decide.mpr ⟨fun h => List.mem_cons.mpr (h.imp (fun q => q.symm) id), fun h => (List.mem_cons.mp h).imp (fun q => q.symm) id⟩
  unfold stored put
  rw [e]
  by_cases h : k ∈ xs
  · simp only [h, decide_true, if_true]
    rw [tr, List.map_map]
    refine List.map_congr_left fun a _ => ?_
    show (if a = k then (a, Value.bool true) else (a, Value.bool true)) = _
    split <;> rfl
  · simp only [h, decide_false, Bool.false_eq_true, if_false]
    simp [tr]
theorem tr_len {xs : List Int} (h : xs.length ≤ 100) : (tr xs).length ≤ sizeLine := by
  rw [tr, List.length_map, sizeLine_eq]; omega
structure WrR where
  xs : List Int
  ys : List Int
  c : Option Str
def ckWrite (xs ys : List Int) (size : Int) (b : Bool) (k : Int) : WrR :=
  if b = true then ⟨put xs k, ys, none⟩
  else if size < k then ⟨xs, ys, some (spE b k ++ Str.ofString " is written outside of the environment")⟩
  else ⟨xs, put ys k, none⟩
end
local macro_rules | `(tactic| walk_at "setItem ref int") => `(tactic| (refine' kda_set (knd := PySem.intKind _ _) ?F ?N ?U ?d (intKind_is _ _ _ _) ?z ?_; (case F => k_asm); (case N => k_asm); (case U => k_updF); (case d => k_asm); (case z => exact tr_len (by assumption)); intro h' o' F' N' hd'; (try dsimp only at N'); (rw [stored_tr] at hd')))
section
variable {w : World} {A A₀ : Around} {base g : Heap} {outer : List Env} {env : Env} {s : Shared} {p : Program} {loose : List Str} {mean : ExcName → Option Value} {mg mb : Str → Option Value}
  {R : Result → Shared → Prop} {Q E : Value → Shared → Prop} {L : Addr} {m : Str → Option Value} {news : List (Addr × Obj)}
theorem write_spec {x dx S X Y r : Addr} {T : CkT} {size : Int} {e b : Bool} {ft : Str} {t1 t5 : Tok} {oX oY : Obj} {xs ys : List Int} {k : Int}
    (D : Rdy A base outer s.heap [(x, instObj 337 dx), (dx, ckO w T S X Y size e ft t1 t5), (X, oX), (Y, oY)]) (C : Wd w base p loose mean mg mb) (hd : A.depth ≤ 580) (hu : A.units ≤ 1800) (hD : Dist x dx X Y) (hlx : xs.length ≤ 100) (hly : ys.length ≤ 100)
    (hX : oX.IsDictOf (intKind PP w) (tr xs)) (hY : oY.IsDictOf (intKind PP w) (tr ys)) (lX : (X == sysModules) = false) (lY : (Y == sysModules) = false) (hr : IsRg s.heap r b k) (hk : RgOk b k) (hsize : -1 ≤ size ∧ size ≤ 3) (nt : NT s.heap [x, dx, X, Y])
    (z : ∀ t5' h' tk' oX' oY', Keeps [dx, X, Y] s.heap h' → h'.get? dx = some (ckO w T S X Y size e (cpo ft (ckWrite xs ys size b k).c) t1 t5') → h'.get? X = some oX' → h'.get? Y = some oY' →
      oX'.IsDictOf (intKind PP w) (tr (ckWrite xs ys size b k).xs) → oY'.IsDictOf (intKind PP w) (tr (ckWrite xs ys size b k).ys) → R (.ok (.ret .none)) { s with heap := h', toks := tk' }) :
    codeAny (MM w) A (.call (.ref 271) ⟨[.ref x, .ref r], []⟩) R s := by
  refine' enter 580 1800 (binds := [(Str.ofString "self", .ref x), (Str.ofString "register", .ref r)]) D C.X C.T hd hu ?k6 ?k7 ?k8 ?k9 ?kB ?_ ?c2 ?c3 ?c4 ?c5
  walk_at "my enter"
  intro g L h₁ tk eL hg hgs F N l1 B X' T' env1
  have at0 := D.at_
  clear D
  k_lt l1
  refine Dist.elim hD fun d1 d2 d3 d4 d5 d6 e1 e2 e3 e4 e5 e6 => ?_
  have hr := hr.keep hg nt
  obtain ⟨r1, r2, htup⟩ := hr.tup
  obtain ⟨k1, k3, k2⟩ := hk
  have hn2' := dig_len100 k1 k3
  have zz : ∀ f t5' h' tk' oX' oY' xs' ys', h'.get? dx = some (ckO w T S X Y size e f t1 t5') → h'.get? X = some oX' → h'.get? Y = some oY' → oX'.IsDictOf (intKind PP w) (tr xs') → oY'.IsDictOf (intKind PP w) (tr ys') →
      ((ckWrite xs ys size b k).xs = xs' ∧ (ckWrite xs ys size b k).ys = ys' ∧ f = cpo ft (ckWrite xs ys size b k).c) → Keeps [dx, X, Y] s.heap h' → R (.ok (.ret .none)) { s with heap := h', toks := tk' } := by
    intro f t5' h' tk' oX' oY' xs' ys' h1 h2 h3 h4 h5 h6 h8
    refine z t5' h' tk' oX' oY' h8 ?_ h2 h3 ?_ ?_
    · rw [← h6.2.2]; exact h1
    · rw [h6.1]; exact h4
    · rw [h6.2.1]; exact h5
  cases b
  all_goals (repeat' (first | walk_at "my step" | (((fail_if_success (fail_if_success (with_reducible show wpAny _ _ (call (Value.ref 257) _) _ _ _))); refine' complain_use (by assumption) (by assumption) (by assumption) (by assumption) rfl rfl rfl rfl (Nat.le_of_ble_eq_true rfl) (Nat.le_of_ble_eq_true rfl) (by k_mem) (by assumption) ?hU ?_; (case hU => (intro _; k_upd)); intro t'_m h'_m tk'_m F'_m N'_m; (try dsimp only at N'_m); (try dsimp only); (try k_sweep)))))
  all_goals
    refine zz _ _ _ _ _ _ _ _ (News.get (by assumption) (by k_mem)) (News.get (by assumption) (by k_mem)) (News.get (by assumption) (by k_mem)) (by assumption) (by assumption) ?_ (keepsM at0 hg (by assumption) (by assumption) [dx, X, Y] (by
      intro p hp
      rcases List.mem_cons.mp hp with rfl | hp
      · exact .inr (by k_mem)
      · rcases List.mem_cons.mp hp with rfl | hp
        · exact .inl (.head _)
        · rcases List.mem_cons.mp hp with rfl | hp
          · exact .inl (.tail _ (.head _))
          · rw [List.mem_singleton.mp hp]; exact .inl (.tail _ (.tail _ (.head _)))))
  all_goals simp [ckWrite, cpo, spE, rn, *]
theorem write_use {H : Heap} {x dx S X Y r : Addr} {T : CkT} {size : Int} {e b : Bool} {ft : Str} {t1 t5 : Tok} {oX oY : Obj} {xs ys : List Int} {k : Int} {n1 : Obj → List (Addr × Obj)} {n2 : Obj → Obj → List (Addr × Obj)} {nf : Obj → Obj → Obj → List (Addr × Obj)}
    (B : Below A₀ base outer g) (F : Fr g L s.heap m) (N : News g L s.heap news) (C : Wd w base p loose mean mg mb)
    (hh : A.handled = none) (hA : A.frames = some (env :: outer)) (hf : env.frame = some L) (hke : env.scope.kind = .function)
    (hd : A.depth ≤ 580) (hu : A.units ≤ 1800) (m1 : (x, instObj 337 dx) ∈ news) (U1 : ∀ a, Upd dx (ckO w T S X Y size e ft t1 t5) a news (n1 a)) (m3 : (X, oX) ∈ news) (m4 : (Y, oY) ∈ news) (U2 : ∀ a b, Upd X oX b (n1 a) (n2 a b)) (U3 : ∀ a b c, Upd Y oY c (n2 a b) (nf a b c)) (hD : Dist x dx X Y)
    (hX : oX.IsDictOf (intKind PP w) (tr xs)) (hY : oY.IsDictOf (intKind PP w) (tr ys)) (hlx : xs.length ≤ 100) (hly : ys.length ≤ 100) (lX : (X == sysModules) = false) (lY : (Y == sysModules) = false) (hr : IsRg H r b k) (hS : ∀ b o, H.get? b = some o → s.heap.get? b = some o) (hk : RgOk b k) (hsize : -1 ≤ size ∧ size ≤ 3)
    (z : ∀ t5' h' tk' oX' oY', Fr g L h' m → News g L h' (nf (ckO w T S X Y size e (cpo ft (ckWrite xs ys size b k).c) t1 t5') oX' oY') → oX'.IsDictOf (intKind PP w) (tr (ckWrite xs ys size b k).xs) → oY'.IsDictOf (intKind PP w) (tr (ckWrite xs ys size b k).ys) → Q .none { s with heap := h', toks := tk' }) :
    wpAny (MM w) A (call (.ref 271) [.ref x, .ref r]) Q E s := by
  have m2 := updMem (U1 (ckO w T S X Y size e ft t1 t5))
  have hs : ∀ p ∈ [(x, instObj 337 dx), (dx, ckO w T S X Y size e ft t1 t5), (X, oX), (Y, oY)], p ∈ news := by
    refine allC ?_ (allC ?_ (allC ?_ (allC ?_ (allE)))) <;> assumption
  have N1 := newsSub N hs
  have N2 : News g L s.heap [(dx, ckO w T S X Y size e ft t1 t5), (X, oX), (Y, oY)] := newsSub N fun p hp => hs p (.tail _ hp)
  have nt : NT s.heap [x, dx, X, Y] := nt_of (mods := [(x, instObj 337 dx), (dx, ckO w T S X Y size e ft t1 t5), (X, oX), (Y, oY)]) (fun p hp => (N1 p hp).1) (by
    refine allC ?_ (allC ?_ (allC ?_ (allC ?_ (allE))))
    · exact inst_cls
    · exact dictO_cls
    · exact dict_cls hX
    · exact dict_cls hY)
  refine wpAny_call (write_spec (Rdy.nest B F N1 hh hA hf hke) C hd hu hD hlx hly hX hY lX lY (hr.keep (up_keep hS) nt_nil) hk hsize nt fun t5' h' tk' oX' oY' hK hq1 hq2 hq3 hq4 hq5 => ?_)
  exact z t5' h' tk' oX' oY' (frAfter F N2 hK) (newsAfter3 N (U1 _) (U2 _ _) (U3 _ _ _) hK hq1 hq2 hq3) hq4 hq5
end
section
variable {w : World} {A A₀ : Around} {base g : Heap} {outer : List Env} {env : Env} {s : Shared} {p : Program} {loose : List Str} {mean : ExcName → Option Value} {mg mb : Str → Option Value}
  {R : Result → Shared → Prop} {Q E : Value → Shared → Prop} {L : Addr} {m : Str → Option Value} {news : List (Addr × Obj)}
theorem list_item {prog : Program} {value slice : PySem.Expr} {l : Addr} {vs : List Value} {n : Nat} {k : Int} {u : Tok} {v : Value} {Q : Value → Shared → Prop} (N : News g L s.heap news) (hm : (l, listOf vs.toArray n) ∈ news) (h0 : 0 ≤ k) (hhi : k < 2 ^ 63) (hx : vs[k.toNat]? = some v) (h : Q v s)
    (hs : subscripted slice false (.ref l) (.int k u) = operate [.ref l, .int k u] (getItem (.ref l) (.int k u)) := by with_unfolding_all rfl) :
    wpAny (model prog w) A (subscriptTail value slice (.ref l) (.int k u)) Q E s :=
  have hl := N.isList hm
  tail_any hl.typeIs slot_list_getitem.lookup (wpAny_getItem_list hl h0 hhi (by simpa using hx) h) hs
theorem tupAt2 {g g' h : Heap} {L L' a : Addr} {m m' : Str → Option Value} {l : Array Value} (F2 : Fr g' L' h m') (F1 : Fr g L g' m) (x : IsTup g a l) : IsTup h a l := IsTup.keeps x fun b o e => F2.keep b o (F1.keep b o e)
structure SyT where
  (k1 k2 k3 k4 : Tok)
abbrev syO (w : World) (V : SyT) (lt dn lf df : Addr) : Obj := dictOf [ent w (Str.ofString "texts") V.k1 (.ref lt), ent w (Str.ofString "atom_numbers") V.k2 (.ref dn), ent w (Str.ofString "functors") V.k3 (.ref lf), ent w (Str.ofString "functor_numbers") V.k4 (.ref df)] 4
abbrev DistS (dx X Y S dS lf : Nat) : Prop := (S ≠ dx ∧ dS ≠ dx ∧ lf ≠ dx ∧ S ≠ X ∧ dS ≠ X ∧ lf ≠ X ∧ S ≠ Y ∧ dS ≠ Y ∧ lf ≠ Y) ∧ (dx ≠ S ∧ dx ≠ dS ∧ dx ≠ lf ∧ X ≠ S ∧ X ≠ dS ∧ X ≠ lf ∧ Y ≠ S ∧ Y ≠ dS ∧ Y ≠ lf)
theorem DistS.elim {dx X Y S dS lf : Nat} {P : Prop} (h : DistS dx X Y S dS lf) (k : S ≠ dx → dS ≠ dx → lf ≠ dx → S ≠ X → dS ≠ X → lf ≠ X → S ≠ Y → dS ≠ Y → lf ≠ Y → dx ≠ S → dx ≠ dS → dx ≠ lf → X ≠ S → X ≠ dS → X ≠ lf → Y ≠ S → Y ≠ dS → Y ≠ lf → P) : P := by
  obtain ⟨⟨f1, f2, f3, f4, f5, f6, f7, f8, f9⟩, f11, f12, f13, f14, f15, f16, f17, f18, f19⟩ := h
  exact k f1 f2 f3 f4 f5 f6 f7 f8 f9 f11 f12 f13 f14 f15 f16 f17 f18 f19
/-- the functors of the law in the list of functors -/
def Fun3 (h : Heap) (fv : List Value) : Prop := ∀ i : Int, 0 ≤ i → i < 3 → ∃ a t t', fv[(fsN i).toNat]? = some (.ref a) ∧ h.get? a = some (tupO [.int 29 t, .int i t'])
theorem Fun3.keep {h h' : Heap} {as : List Addr} {fv : List Value} (x : Fun3 h fv) (hK : Keeps as h h') (n : NT h as) : Fun3 h' fv := fun i h0 h1 => by
  obtain ⟨a, t, t', e1, e2⟩ := x i h0 h1
  exact ⟨a, t, t', e1, hK _ _ e2 fun q => n a q _ e2 rfl⟩
def spB (n : Int) : Str := Str.empty ++ Str.ofString "argument " ++ Str.ofString (toString n) ++ Str.ofString " is lacking"
def ckArg (xs : List Int) (n : Int) (f : Str) : Str :=
  if 2 ≤ n ∧ 2 ∉ xs then cpl (if 1 ≤ n ∧ 1 ∉ xs then cpl f (spB 1) else f) (spB 2) else (if 1 ≤ n ∧ 1 ∉ xs then cpl f (spB 1) else f)
theorem rs4 {n : Int} (h0 : 0 ≤ n) (h1 : n < 4) : Builtin.Range.rangeSize 1 (n + 1) 1 = ((n.toNat : Nat) : Int) ∧ Builtin.Range.small 1 (n + 1) 1 = true := by
  obtain ⟨k, rfl⟩ := Int.eq_ofNat_of_zero_le h0
  have hk : k < 4 := Int.ofNat_lt.mp h1
  match k, hk with
  | 0, _ => exact ⟨by decide +kernel, by decide +kernel⟩
  | 1, _ => exact ⟨by decide +kernel, by decide +kernel⟩
  | 2, _ => exact ⟨by decide +kernel, by decide +kernel⟩
  | 3, _ => exact ⟨by decide +kernel, by decide +kernel⟩
theorem allNe_mem {d : Addr} {l : List (Addr × Obj)} (h : AllNe d l) : ∀ p ∈ l, p.1 ≠ d := by
  induction l with
  | nil => intro p hp; cases hp
  | cons q r ih =>
    intro p hp
    rcases List.mem_cons.mp hp with rfl | hp
    · exact h.1
    · exact ih h.2 p hp
/-- the faults of the first arguments -/
def agr (xs : List Int) : Nat → Str → Str
  | 0, f => f
  | j + 1, f => if (1 : Int) + (j : Int) ∈ xs then agr xs j f else cpl (agr xs j f) (spB ((1 : Int) + (j : Int)))
theorem agr_end {xs : List Int} {i : Int} {f : Str} (h0 : 0 ≤ i) (h1 : i < 3) : agr xs i.toNat f = ckArg xs i f := by
  obtain ⟨k, rfl⟩ := Int.eq_ofNat_of_zero_le h0
  have hk : k < 3 := Int.ofNat_lt.mp h1
  have e1 : (1 : Int) + ((0 : Nat) : Int) = 1 := rfl
  have e2 : (1 : Int) + ((1 : Nat) : Int) = 2 := rfl
  match k, hk with
  | 0, _ => rfl
  | 1, _ => by_cases h : (1 : Int) ∈ xs <;> simp [agr, ckArg, h]
  | 2, _ => by_cases h : (1 : Int) ∈ xs <;> by_cases h' : (2 : Int) ∈ xs <;> simp [agr, ckArg, h, h', e1, e2]
end
local macro_rules | `(tactic| walk_at "subscriptTail") => `(tactic| ((fail_if_success (fail_if_success (with_reducible show wpAny _ _ (subscriptTail _ _ (Value.ref _) (Value.int (fsN _) _)) _ _ _))); refine list_item (by assumption) (by k_mem) (by first | assumption | decide) (by first | assumption | decide) (by assumption) ?_))
local macro_rules | `(tactic| walk_at "subscriptTail") => `(tactic| ((fail_if_success (fail_if_success (with_reducible show wpAny _ _ (subscriptTail _ _ (Value.ref _) (Value.int _ _)) _ _ _))); refine item_tupleT (tupAt2 (by assumption) (by assumption) (by assumption)) (by decide) (by decide) rfl rfl ?_))
section
variable {w : World} {A A₀ : Around} {base g : Heap} {outer : List Env} {env : Env} {s : Shared} {p : Program} {loose : List Str} {mean : ExcName → Option Value} {mg mb : Str → Option Value}
  {R : Result → Shared → Prop} {Q E : Value → Shared → Prop} {L : Addr} {m : Str → Option Value} {news : List (Addr × Obj)}
inductive ArgI (w : World) (x dx S X Y dS lf lt dn df : Addr) (V : SyT) (T : CkT) (size : Int) (e : Bool) (xs : List Int) (ft : Str) (t1 u : Tok) (fv : List Value) (nF : Nat) (oX : Obj) (i : Int) (i' : Nat) (m' : Str → Option Value) (news' : List (Addr × Obj)) : Prop where
  | mk (pv : Option Value) (t5' : Tok) (e0 : m' = (fun y => if y = Str.ofString "place" then pv else List.lookup y [(Str.ofString "self", Value.ref x), (Str.ofString "functor", Value.int (fsN i) u)].reverse)) (e1 : news' = [(x, instObj 337 dx), (dx, ckO w T S X Y size e (agr xs i' ft) t1 t5'), (X, oX), (S, instObj 155 dS), (dS, syO w V lt dn lf df), (lf, listOf fv.toArray nF)])
theorem args_spec {x dx S dS lt dn lf df X Y : Addr} {T : CkT} {V : SyT} {size : Int} {e : Bool} {ft : Str} {t1 t5 u : Tok} {oX : Obj} {xs : List Int} {i : Int} {fv : List Value} {nF : Nat}
    (D : Rdy A base outer s.heap [(x, instObj 337 dx), (dx, ckO w T S X Y size e ft t1 t5), (X, oX), (S, instObj 155 dS), (dS, syO w V lt dn lf df), (lf, listOf fv.toArray nF)]) (C : Wd w base p loose mean mg mb) (hd : A.depth ≤ 580) (hu : A.units ≤ 1800) (hD : Dist x dx X Y) (hE : DistS dx X Y S dS lf)
    (hX : oX.IsDictOf (intKind PP w) (tr xs)) (lX : (X == sysModules) = false) (hf : Fun3 s.heap fv) (hi : 0 ≤ i ∧ i < 3) (nt : NT s.heap [x, dx, X, S, dS, lf])
    (z : ∀ t5' h' tk', Keeps [dx] s.heap h' → h'.get? dx = some (ckO w T S X Y size e (ckArg xs i ft) t1 t5') → R (.ok (.ret .none)) { s with heap := h', toks := tk' }) :
    codeAny (MM w) A (.call (.ref 278) ⟨[.ref x, .int (fsN i) u], []⟩) R s := by
  refine' enter 580 1800 (binds := [(Str.ofString "self", .ref x), (Str.ofString "functor", .int (fsN i) u)]) D C.X C.T hd hu ?k6 ?k7 ?k8 ?k9 ?kB ?_ ?c2 ?c3 ?c4 ?c5
  walk_at "my enter"
  intro g L h₁ tk eL hg hgs F N l1 B X' T' env1
  have at0 := D.at_
  clear D
  k_lt l1
  refine Dist.elim hD fun d1 d2 d3 d4 d5 d6 e1 e2 e3 e4 e5 e6 => ?_
  refine DistS.elim hE fun f1 f2 f3 f4 f5 f6 f7 f8 f9 f11 f12 f13 f14 f15 f16 f17 f18 f19 => ?_
  have hf := hf.keep hg nt
  obtain ⟨i0, i1⟩ := hi
  obtain ⟨a, t, t', hfv, hft⟩ := hf i i0 i1
  have htup := tup_of hft
  have hq0 : 0 ≤ fsN i := by unfold fsN; omega
  have hq1 : fsN i < 2 ^ 63 := by unfold fsN; omega
  repeat' (first | ((fail_if_success (with_reducible show wpAny _ _ (call (Value.type "range") _) _ _ _)); first | walk_at "my step" | (((fail_if_success (fail_if_success (with_reducible show wpAny _ _ (call (Value.ref 124) _) _ _ _))); k_dflt (refine' open2 (n1 := Str.ofString "self") (n2 := Str.ofString "functor") ?k1 ?k2 ?k3 ?k4 ?k5 ?kA ?kF ?kK ?k6 ?k7 ?k8 ?k9 ?kB ?_ ?c2 ?c3 ?c4 ?c5; walk_at "my opened")))))
  refine range2_rows (by assumption) (by assumption) ?_
  intro hr tkr r1 r2 r3 hR FR NR upR
  try dsimp only
  k_sweep
  have hrs := rs4 i0 (Int.lt_trans i1 (by decide))
  refine iter_rangeUnr (n := i.toNat) rfl hR hrs.2 hrs.1 FR NR ?_
  intro I lI
  have j1 : @Ne Nat x I := Nat.ne_of_lt (lI (x, _) (by k_mem))
  have j2 : @Ne Nat dx I := Nat.ne_of_lt (lI (dx, _) (by k_mem))
  have j3 : @Ne Nat X I := Nat.ne_of_lt (lI (X, _) (by k_mem))
  have j4 : @Ne Nat S I := Nat.ne_of_lt (lI (S, _) (by k_mem))
  have j5 : @Ne Nat dS I := Nat.ne_of_lt (lI (dS, _) (by k_mem))
  have j6 : @Ne Nat lf I := Nat.ne_of_lt (lI (lf, _) (by k_mem))
  have j7 : @Ne Nat I dx := j2.symm
  refine rangeInv (fun i' m' news' => ArgI w x dx S X Y dS lf lt dn df V T size e xs ft t1 u fv nF oX i i' m' news') ?_ ?_ i.toNat 0 _ _ (Nat.zero_add _) ⟨none, t5, ?_, rfl⟩
  · rintro i' m' news' hin ⟨pv, t5', rfl, rfl⟩ tp hp tkp FP NP
    have hn2' : (Str.ofString (toString ((1 : Int) + (i' : Int)))).length ≤ 100 := dig_len100 (by omega) (by omega)
    generalize hag : agr xs i' ft = fa at *
    try dsimp only
    repeat' (first | ((fail_if_success (with_reducible show UnrEnd _ _ _ _ _ _ _)); (fail_if_success (with_reducible show UnrPost _ _ _ _ _ _ _ _ _)); first | walk_at "my step" | (((fail_if_success (fail_if_success (with_reducible show wpAny _ _ (call (Value.ref 257) _) _ _ _))); refine' complain_use (by assumption) (by assumption) (by assumption) (by assumption) rfl rfl rfl rfl (Nat.le_of_ble_eq_true rfl) (Nat.le_of_ble_eq_true rfl) (by k_mem) (by assumption) ?hU ?_; (case hU => (intro _; k_upd)); intro t'_m h'_m tk'_m F'_m N'_m; (try dsimp only at N'_m); (try dsimp only); (try k_sweep)))))
    · have hs := (by assumption : (valueAt (tr xs) ((1 : Int) + (i' : Int))).isSome = true)
      rw [valueAt_tr] at hs
      have ha : agr xs (i' + 1) ft = fa := by rw [agr, if_pos (of_decide_eq_true hs)]; exact hag
      exact UnrEnd.intro (by assumption) (by assumption) [(x, instObj 337 dx), (dx, ckO w T S X Y size e fa t1 _), (X, oX), (S, instObj 155 dS), (dS, syO w V lt dn lf df), (lf, listOf fv.toArray nF)] (fun _ hp => hp) (by exact allNe_mem ⟨j1, j2, j3, j4, j5, j6, trivial⟩) ⟨some _, _, by funext y; by_cases h1 : y = Str.ofString "place" <;> simp [h1] <;> exact rfl, by rw [ha]⟩
    · have hs := (by assumption : (valueAt (tr xs) ((1 : Int) + (i' : Int))).isSome = false)
      rw [valueAt_tr] at hs
      have ha : agr xs (i' + 1) ft = cpl fa (spB ((1 : Int) + (i' : Int))) := by rw [agr, if_neg (of_decide_eq_false hs), hag]
      exact UnrEnd.intro (by assumption) (by assumption) [(x, instObj 337 dx), (dx, ckO w T S X Y size e (cpl fa (spB ((1 : Int) + (i' : Int)))) t1 _), (X, oX), (S, instObj 155 dS), (dS, syO w V lt dn lf df), (lf, listOf fv.toArray nF)] (fun _ hp => hp) (by exact allNe_mem ⟨j1, j2, j3, j4, j5, j6, trivial⟩) ⟨some _, _, by funext y; by_cases h1 : y = Str.ofString "place" <;> simp [h1] <;> exact rfl, by rw [ha]⟩
  · rintro m' news' ⟨pv, t5', rfl, rfl⟩ hp tkp FP NP
    rw [agr_end i0 i1] at NP
    try dsimp only
    clear FR NR
    (repeat' (walk_at "my step"))
    exact z _ _ _ (keepsM at0 hg (by assumption) (by assumption) [dx] (by
      refine allC ?_ (allC ?_ (allC ?_ (allC ?_ (allC ?_ (allC ?_ (allE))))))
      · exact .inr (by k_mem)
      · exact .inl (.head _)
      · exact .inr (by k_mem)
      · exact .inr (by k_mem)
      · exact .inr (by k_mem)
      · exact .inr (by k_mem))) (News.get (by assumption) (by k_mem))
  · funext y
    by_cases h1 : y = Str.ofString "place"
    · subst h1; exact rfl
    · exact (if_neg h1).symm
theorem args_use {H : Heap} {x dx S dS lt dn lf df X Y : Addr} {T : CkT} {V : SyT} {size : Int} {e : Bool} {ft : Str} {t1 t5 u : Tok} {oX : Obj} {xs : List Int} {i : Int} {fv : List Value} {nF : Nat} {nf : Obj → List (Addr × Obj)}
    (B : Below A₀ base outer g) (F : Fr g L s.heap m) (N : News g L s.heap news) (C : Wd w base p loose mean mg mb)
    (hh : A.handled = none) (hA : A.frames = some (env :: outer)) (hf : env.frame = some L) (hke : env.scope.kind = .function)
    (hd : A.depth ≤ 580) (hu : A.units ≤ 1800) (m1 : (x, instObj 337 dx) ∈ news) (U : ∀ o', Upd dx (ckO w T S X Y size e ft t1 t5) o' news (nf o')) (m3 : (X, oX) ∈ news) (m4 : (S, instObj 155 dS) ∈ news) (m5 : (dS, syO w V lt dn lf df) ∈ news) (m6 : (lf, listOf fv.toArray nF) ∈ news)
    (hD : Dist x dx X Y) (hE : DistS dx X Y S dS lf) (hX : oX.IsDictOf (intKind PP w) (tr xs)) (lX : (X == sysModules) = false) (hF : Fun3 H fv) (hS : ∀ b o, H.get? b = some o → s.heap.get? b = some o) (hi : 0 ≤ i ∧ i < 3)
    (z : ∀ t5' h' tk', Fr g L h' m → News g L h' (nf (ckO w T S X Y size e (ckArg xs i ft) t1 t5')) → Q .none { s with heap := h', toks := tk' }) :
    wpAny (MM w) A (call (.ref 278) [.ref x, .int (fsN i) u]) Q E s := by
  have m2 := updMem (U (ckO w T S X Y size e ft t1 t5))
  have hs : ∀ p ∈ [(x, instObj 337 dx), (dx, ckO w T S X Y size e ft t1 t5), (X, oX), (S, instObj 155 dS), (dS, syO w V lt dn lf df), (lf, listOf fv.toArray nF)], p ∈ news := by
    refine allC ?_ (allC ?_ (allC ?_ (allC ?_ (allC ?_ (allC ?_ (allE)))))) <;> assumption
  have N1 := newsSub N hs
  have N2 : News g L s.heap [(dx, ckO w T S X Y size e ft t1 t5)] := newsSub N fun p hp => hs p (by rw [List.mem_singleton.mp hp]; simp)
  have nt : NT s.heap [x, dx, X, S, dS, lf] := nt_of (mods := [(x, instObj 337 dx), (dx, ckO w T S X Y size e ft t1 t5), (X, oX), (S, instObj 155 dS), (dS, syO w V lt dn lf df), (lf, listOf fv.toArray nF)]) (fun p hp => (N1 p hp).1) (by
    refine allC ?_ (allC ?_ (allC ?_ (allC ?_ (allC ?_ (allC ?_ (allE))))))
    · exact inst_cls
    · exact dictO_cls
    · exact dict_cls hX
    · exact inst_cls
    · exact dictO_cls
    · show Value.type "list" ≠ Value.type "tuple"; decide)
  refine wpAny_call (args_spec (Rdy.nest B F N1 hh hA hf hke) C hd hu hD hE hX lX (hF.keep (up_keep hS) nt_nil) hi nt fun t5' h' tk' hK hq => ?_)
  exact z t5' h' tk' (frAfter F N2 hK) (newsAfter1 N (U _) hK hq)
end
section
variable {w : World} {A A₀ : Around} {base g : Heap} {outer : List Env} {env : Env} {s : Shared} {p : Program} {loose : List Str} {mean : ExcName → Option Value} {mg mb : Str → Option Value}
  {R : Result → Shared → Prop} {Q E : Value → Shared → Prop} {L : Addr} {m : Str → Option Value} {news : List (Addr × Obj)}
theorem tupAt3 {g g' g'' h : Heap} {L L' L'' a : Addr} {m m' m'' : Str → Option Value} {l : Array Value} (F3 : Fr g'' L'' h m'') (F2 : Fr g' L' g'' m') (F1 : Fr g L g' m) (x : IsTup g a l) : IsTup h a l := IsTup.keeps x fun b o e => F3.keep b o (F2.keep b o (F1.keep b o e))
theorem stay1 {g h : Heap} {L : Addr} {m : Str → Option Value} (F : Fr g L h m) : ∀ b o, g.get? b = some o → h.get? b = some o := F.keep
theorem stay2 {g g' h : Heap} {L L' : Addr} {m m' : Str → Option Value} (F2 : Fr g' L' h m') (F1 : Fr g L g' m) : ∀ b o, g.get? b = some o → h.get? b = some o := fun b o e => F2.keep b o (F1.keep b o e)
theorem stay3 {g g' g'' h : Heap} {L L' L'' : Addr} {m m' m'' : Str → Option Value} (F3 : Fr g'' L'' h m'') (F2 : Fr g' L' g'' m') (F1 : Fr g L g' m) : ∀ b o, g.get? b = some o → h.get? b = some o := fun b o e => F3.keep b o (F2.keep b o (F1.keep b o e))
def kept (ys : List Int) (n : Int) : List Int := ys.filter fun k => decide (k ≤ n)
def ckLeave (c : CkS) : Str := if c.size ≥ 0 then cpl c.fault (Str.ofString "the clause is left with its environment") else c.fault
def ckCall (c : CkS) (f : Str) (n : Int) : Str := if c.size < 0 then cpl f (Str.ofString "a call without an environment") else if n > c.size then cpl f (Str.ofString "more live slots than the environment has") else f
def ckStep (c : CkS) : Ins → CkS
  | .gvar b k j => ⟨(ckWrite c.xs c.ys c.size b k).xs, (ckWrite c.xs c.ys c.size b k).ys, c.size, c.ended, cpo (cpo c.fault (ckRead c.xs c.ys c.size true j)) (ckWrite c.xs c.ys c.size b k).c⟩
  | .gval b k j => ⟨c.xs, c.ys, c.size, c.ended, cpo (cpo c.fault (ckRead c.xs c.ys c.size true j)) (ckRead c.xs c.ys c.size b k)⟩
  | .gcon j => ⟨c.xs, c.ys, c.size, c.ended, cpo c.fault (ckRead c.xs c.ys c.size true j)⟩
  | .pval b k j => ⟨(ckWrite c.xs c.ys c.size true j).xs, (ckWrite c.xs c.ys c.size true j).ys, c.size, c.ended, cpo (cpo c.fault (ckRead c.xs c.ys c.size b k)) (ckWrite c.xs c.ys c.size true j).c⟩
  | .pvar b k j => ⟨(ckWrite (ckWrite c.xs c.ys c.size b k).xs (ckWrite c.xs c.ys c.size b k).ys c.size true j).xs, (ckWrite (ckWrite c.xs c.ys c.size b k).xs (ckWrite c.xs c.ys c.size b k).ys c.size true j).ys, c.size, c.ended,
      cpo (cpo c.fault (ckWrite c.xs c.ys c.size b k).c) (ckWrite (ckWrite c.xs c.ys c.size b k).xs (ckWrite c.xs c.ys c.size b k).ys c.size true j).c⟩
  | .pcon j => ⟨(ckWrite c.xs c.ys c.size true j).xs, (ckWrite c.xs c.ys c.size true j).ys, c.size, c.ended, cpo c.fault (ckWrite c.xs c.ys c.size true j).c⟩
  | .alloc n => ⟨c.xs, c.ys, n, c.ended, if c.size ≥ 0 then cpl c.fault (Str.ofString "a second environment") else c.fault⟩
  | .dea => ⟨c.xs, [], -1, c.ended, if c.size < 0 then cpl c.fault (Str.ofString "no environment to give back") else c.fault⟩
  | .call i n => ⟨[], kept c.ys n, c.size, c.ended, ckCall c (ckArg c.xs i c.fault) n⟩
  | .exec i => ⟨c.xs, c.ys, c.size, true, ckArg c.xs i (ckLeave c)⟩
  | .pro => ⟨c.xs, c.ys, c.size, true, ckLeave c⟩
  | .blt i => ⟨c.xs, c.ys, c.size, c.ended, ckArg c.xs i c.fault⟩
  | .lev b k => ⟨(ckWrite c.xs c.ys c.size b k).xs, (ckWrite c.xs c.ys c.size b k).ys, c.size, c.ended, cpo c.fault (ckWrite c.xs c.ys c.size b k).c⟩
  | .cut b k => ⟨c.xs, c.ys, c.size, c.ended, cpo c.fault (ckRead c.xs c.ys c.size b k)⟩
  | .fail => ⟨c.xs, c.ys, c.size, true, c.fault⟩
  | .neck => c
theorem put_len {xs : List Int} {k : Int} : (put xs k).length ≤ xs.length + 1 := by unfold put; split <;> simp
theorem wrx_len {xs ys : List Int} {size : Int} {b : Bool} {k : Int} : (ckWrite xs ys size b k).xs.length ≤ xs.length + 1 := by
  unfold ckWrite; split
  · exact put_len
  · split <;> exact Nat.le_succ _
theorem wry_len {xs ys : List Int} {size : Int} {b : Bool} {k : Int} : (ckWrite xs ys size b k).ys.length ≤ ys.length + 1 := by
  unfold ckWrite; split
  · exact Nat.le_succ _
  · split
    · exact Nat.le_succ _
    · exact put_len
theorem notIn7 {d a b c e f g i : Nat} (h1 : d ≠ a) (h2 : d ≠ b) (h3 : d ≠ c) (h4 : d ≠ e) (h5 : d ≠ f) (h6 : d ≠ g) (h7 : d ≠ i) : d ∉ [a, b, c, e, f, g, i] := by simp [*]
theorem notIn7L {d a b c e f g i : Nat} (h : a < d ∧ b < d ∧ c < d ∧ e < d ∧ f < d ∧ g < d ∧ i < d) : d ∉ [a, b, c, e, f, g, i] := by
  obtain ⟨h1, h2, h3, h4, h5, h6, h7⟩ := h
  exact notIn7 (Ne.symm (Nat.ne_of_lt h1)) (Ne.symm (Nat.ne_of_lt h2)) (Ne.symm (Nat.ne_of_lt h3)) (Ne.symm (Nat.ne_of_lt h4)) (Ne.symm (Nat.ne_of_lt h5)) (Ne.symm (Nat.ne_of_lt h6)) (Ne.symm (Nat.ne_of_lt h7))
theorem Dist.newY {x dx X Y d S dS lf : Nat} (h : Dist x dx X Y) (l : x < d ∧ dx < d ∧ X < d ∧ Y < d ∧ S < d ∧ dS < d ∧ lf < d) : Dist x dx X d := by
  obtain ⟨h1, h2, h3, h4, h5, h6, h7⟩ := l
  exact ⟨h.1, h.2.1, Nat.ne_of_lt h1, h.2.2.2.1, Nat.ne_of_lt h2, Nat.ne_of_lt h3⟩
theorem Dist.newX {x dx X Y d S dS lf : Nat} (h : Dist x dx X Y) (l : x < d ∧ dx < d ∧ X < d ∧ Y < d ∧ S < d ∧ dS < d ∧ lf < d) : Dist x dx d Y := by
  obtain ⟨h1, h2, h3, h4, h5, h6, h7⟩ := l
  exact ⟨h.1, Nat.ne_of_lt h1, h.2.2.1, Nat.ne_of_lt h2, h.2.2.2.2.1, Ne.symm (Nat.ne_of_lt h4)⟩
theorem DistS.newY {x dx X Y d S dS lf : Nat} (h : DistS dx X Y S dS lf) (l : x < d ∧ dx < d ∧ X < d ∧ Y < d ∧ S < d ∧ dS < d ∧ lf < d) : DistS dx X d S dS lf := by
  obtain ⟨h1, h2, h3, h4, h5, h6, h7⟩ := l
  obtain ⟨⟨f1, f2, f3, f4, f5, f6, _, _, _⟩, e1, e2, e3, e4, e5, e6, _, _, _⟩ := h
  exact ⟨⟨f1, f2, f3, f4, f5, f6, Nat.ne_of_lt h5, Nat.ne_of_lt h6, Nat.ne_of_lt h7⟩, e1, e2, e3, e4, e5, e6, Ne.symm (Nat.ne_of_lt h5), Ne.symm (Nat.ne_of_lt h6), Ne.symm (Nat.ne_of_lt h7)⟩
theorem DistS.newX {x dx X Y d S dS lf : Nat} (h : DistS dx X Y S dS lf) (l : x < d ∧ dx < d ∧ X < d ∧ Y < d ∧ S < d ∧ dS < d ∧ lf < d) : DistS dx d Y S dS lf := by
  obtain ⟨h1, h2, h3, h4, h5, h6, h7⟩ := l
  obtain ⟨⟨f1, f2, f3, _, _, _, f4, f5, f6⟩, e1, e2, e3, _, _, _, e4, e5, e6⟩ := h
  exact ⟨⟨f1, f2, f3, Nat.ne_of_lt h5, Nat.ne_of_lt h6, Nat.ne_of_lt h7, f4, f5, f6⟩, e1, e2, e3, Ne.symm (Nat.ne_of_lt h5), Ne.symm (Nat.ne_of_lt h6), Ne.symm (Nat.ne_of_lt h7), e4, e5, e6⟩
theorem keeps7 {h h' g : Heap} {L : Addr} {m : Str → Option Value} {news : List (Addr × Obj)} {x dx X Y S dS lf : Addr} {o1 o2 o3 o4 o5 o6 o7 : Obj} (at0 : ∀ p ∈ [(x, o1), (dx, o2), (X, o3), (Y, o4), (S, o5), (dS, o6), (lf, o7)], h.get? p.1 = some p.2)
    (hg : ∀ b o, h.get? b = some o → b ∉ [(x, o1), (dx, o2), (X, o3), (Y, o4), (S, o5), (dS, o6), (lf, o7)].map (·.1) → g.get? b = some o) (F : Fr g L h' m) (N : News g L h' news) (m1 : (x, o1) ∈ news) (m5 : (S, o5) ∈ news) (m6 : (dS, o6) ∈ news) (m7 : (lf, o7) ∈ news) : Keeps [dx, X, Y] h h' :=
  keepsM at0 hg F N [dx, X, Y] fun p hp => by
    revert p
    refine allC ?_ (allC ?_ (allC ?_ (allC ?_ (allC ?_ (allC ?_ (allC ?_ (allE)))))))
    · exact .inr m1
    · exact .inl (.head _)
    · exact .inl (.tail _ (.head _))
    · exact .inl (.tail _ (.tail _ (.head _)))
    · exact .inr m5
    · exact .inr m6
    · exact .inr m7
def ckCallF (size : Int) (f : Str) (n : Int) : Str := if size < 0 then cpl f (Str.ofString "a call without an environment") else if n > size then cpl f (Str.ofString "more live slots than the environment has") else f
theorem call_join {M : Model} {A : Around} {st : Stmt} {rest : List Stmt} {env : Env} {Q : Flow → Shared → Prop} {E : Value → Shared → Prop} {w : World} {x dx S X Y : Addr} {T : CkT} {size : Int} {e : Bool} {ft : Str} {t1 t5 : Tok} {n : Int} {nf : Obj → List (Addr × Obj)}
    (F : Fr g L s.heap m) (N : News g L s.heap news) (_m1 : (x, instObj 337 dx) ∈ news) (U : ∀ o', Upd dx (ckO w T S X Y size e ft t1 t5) o' news (nf o'))
    (h1 : ∀ J : Flow → Shared → Prop, (∀ f t5' h' tk', Fr g L h' m → News g L h' (nf (ckO w T S X Y size e f t1 t5')) → f = ckCallF size ft n → J .next { s with heap := h', toks := tk' }) → wpAny M A (exec st env) J E s)
    (h2 : ∀ t5' h' tk', Fr g L h' m → News g L h' (nf (ckO w T S X Y size e (ckCallF size ft n) t1 t5')) → wpAny M A (execs rest env) Q E { s with heap := h', toks := tk' }) : wpAny M A (execs (st :: rest) env) Q E s :=
  wpAny_execs_cons (h1 _ fun f t5' h' tk' F' N' q => h2 t5' h' tk' F' (q ▸ N'))
theorem ints_nil {v : List Value} {n : List Int} (h : IntsAre v n) (e : n.length = 0) : v = [] := List.eq_nil_of_length_eq_zero (by have := IntsAre.length h; omega)
def YsOk (ys : List Int) : Prop := ys.Nodup ∧ ∀ k ∈ ys, k = 1 ∨ k = 2
theorem YsOk.cases {ys : List Int} (h : YsOk ys) : ys = [] ∨ ys = [1] ∨ ys = [2] ∨ ys = [1, 2] ∨ ys = [2, 1] := by
  obtain ⟨hn, hm⟩ := h
  match ys, hn, hm with
  | [], _, _ => exact .inl rfl
  | [a], _, hm =>
    rcases hm a (.head _) with rfl | rfl
    · exact .inr (.inl rfl)
    · exact .inr (.inr (.inl rfl))
  | [a, b], hn, hm =>
    have hab : ¬ a = b := fun e => (List.nodup_cons.mp hn).1 (e ▸ .head _)
    rcases hm a (.head _) with rfl | rfl <;> rcases hm b (.tail _ (.head _)) with rfl | rfl
    · exact absurd rfl hab
    · exact .inr (.inr (.inr (.inl rfl)))
    · exact .inr (.inr (.inr (.inr rfl)))
    · exact absurd rfl hab
  | a :: b :: c :: r, hn, hm =>
    have hn2 := List.nodup_cons.mp hn
    have hab : ¬ a = b := fun e => hn2.1 (e ▸ .head _)
    have hac : ¬ a = c := fun e => hn2.1 (e ▸ .tail _ (.head _))
    have hbc : ¬ b = c := fun e => (List.nodup_cons.mp hn2.2).1 (e ▸ .head _)
    exfalso
    rcases hm a (.head _) with rfl | rfl <;> rcases hm b (.tail _ (.head _)) with rfl | rfl
    · exact hab rfl
    · rcases hm c (.tail _ (.tail _ (.head _))) with rfl | rfl
      · exact hac rfl
      · exact hbc rfl
    · rcases hm c (.tail _ (.tail _ (.head _))) with rfl | rfl
      · exact hbc rfl
      · exact hac rfl
    · exact hab rfl
/-- the contract of step, for one kind of row -/
def StepC (w : World) (i : Ins) : Prop := ∀ {A : Around} {base : Heap} {outer : List Env} {s : Shared} {p : Program} {loose : List Str} {mean : ExcName → Option Value} {mg mb : Str → Option Value} {R : Result → Shared → Prop}
    {x dx S dS lt dn lf df X Y r : Addr} {T : CkT} {V : SyT} {c : CkS} {t1 t5 : Tok} {oX oY : Obj} {fv : List Value} {nF : Nat},
    Rdy A base outer s.heap [(x, instObj 337 dx), (dx, ckO w T S X Y c.size c.ended c.fault t1 t5), (X, oX), (Y, oY), (S, instObj 155 dS), (dS, syO w V lt dn lf df), (lf, listOf fv.toArray nF)] → Wd w base p loose mean mg mb → A.depth ≤ 560 → A.units ≤ 1600 →
    Dist x dx X Y → DistS dx X Y S dS lf → oX.IsDictOf (intKind PP w) (tr c.xs) → oY.IsDictOf (intKind PP w) (tr c.ys) → c.xs.length ≤ 90 → c.ys.length ≤ 90 → YsOk c.ys → (X == sysModules) = false → (Y == sysModules) = false → Fun3 s.heap fv → IsIns fsN s.heap r i → InsOk i → (-1 ≤ c.size ∧ c.size ≤ 3) →
    NT s.heap [x, dx, X, Y, S, dS, lf] →
    (∀ t1' t5' h' tk' X' Y' oX' oY', Keeps [dx, X, Y] s.heap h' → h'.get? dx = some (ckO w T S X' Y' (ckStep c i).size (ckStep c i).ended (ckStep c i).fault t1' t5') → h'.get? X' = some oX' → h'.get? Y' = some oY' →
      oX'.IsDictOf (intKind PP w) (tr (ckStep c i).xs) → oY'.IsDictOf (intKind PP w) (tr (ckStep c i).ys) → (X' = X ∨ s.heap.get? X' = none) → (Y' = Y ∨ s.heap.get? Y' = none) → Dist x dx X' Y' → DistS dx X' Y' S dS lf → (X' == sysModules) = false → (Y' == sysModules) = false →
      R (.ok (.ret .none)) { s with heap := h', toks := tk' }) →
    codeAny (MM w) A (.call (.ref 334) ⟨[.ref x, .ref r], []⟩) R s
end
local macro_rules | `(tactic| k_ne) => `(tactic| with_reducible assumption)
local macro_rules | `(tactic| walk_at "subscriptTail") => `(tactic| ((fail_if_success (fail_if_success (with_reducible show wpAny _ _ (subscriptTail _ _ (Value.ref _) (Value.int _ _)) _ _ _))); refine item_tupleT (tupAt3 (by assumption) (by assumption) (by assumption) (by assumption)) (by decide) (by decide) rfl rfl ?_))
local macro_rules | `(tactic| walk_at "subscriptTail") => `(tactic| ((fail_if_success (fail_if_success (with_reducible show wpAny _ _ (subscriptTail _ _ (Value.ref _) (Value.int _ _)) _ _ _))); refine item_tupleT (tupAt2 (by assumption) (by assumption) (by assumption)) (by decide) (by decide) rfl rfl ?_))
local macro_rules | `(tactic| walk_at "subscriptTail") => `(tactic| ((fail_if_success (fail_if_success (with_reducible show wpAny _ _ (subscriptTail _ _ (Value.ref _) (Value.int _ _)) _ _ _))); refine item_tupleT (Fr.tup (by assumption) (by assumption)) (by decide) (by decide) rfl rfl ?_))
local macro_rules | `(tactic| walk_at "call builtin:len") => `(tactic| ((fail_if_success (fail_if_success (with_reducible show wpAny _ _ (call (Value.builtin "len") [Value.ref _]) _ _ _))); refine kun_lenT (k := 3) (by (first | exact Fr.tup (by assumption) (by assumption) | exact tupAt2 (by assumption) (by assumption) (by assumption) | exact tupAt3 (by assumption) (by assumption) (by assumption) (by assumption))) rfl (by decide) ?_))
section
variable {w : World} {A A₀ : Around} {base g : Heap} {outer : List Env} {env : Env} {s : Shared} {p : Program} {loose : List Str} {mean : ExcName → Option Value} {mg mb : Str → Option Value}
  {R : Result → Shared → Prop} {Q E : Value → Shared → Prop} {L : Addr} {m : Str → Option Value} {news : List (Addr × Obj)}
theorem w_unify (i : Ins) : Txt.startswith (wordOf i) (Str.ofString "unify_") = false := by cases i <;> (show Txt.startswith (Str.ofString _) _ = false; decide +kernel)
theorem w_set (i : Ins) : Txt.startswith (wordOf i) (Str.ofString "set_") = false := by cases i <;> (show Txt.startswith (Str.ofString _) _ = false; decide +kernel)
theorem w_get (i : Ins) : Txt.startswith (wordOf i) (Str.ofString "get_") = (isGet i || isLev i) := by cases i <;> first | (show Txt.startswith (Str.ofString _) _ = false; decide +kernel) | (show Txt.startswith (Str.ofString _) _ = true; decide +kernel)
theorem w_put (i : Ins) : Txt.startswith (wordOf i) (Str.ofString "put_") = isPut i := by cases i <;> first | (show Txt.startswith (Str.ofString _) _ = false; decide +kernel) | (show Txt.startswith (Str.ofString _) _ = true; decide +kernel)
theorem w_none (i : Ins) : ∀ l ∈ [Str.ofString "put_list", Str.ofString "put_structure", Str.ofString "put_unsafe_value", Str.ofString "get_list", Str.ofString "get_structure", Str.ofString "mark", Str.ofString "halt"], ¬ ((wordOf i == l) = true) := by
  cases i <;> (show ∀ l ∈ _, ¬ ((Str.ofString _ == l) = true); decide +kernel)
theorem get_data {fs : Int → Int} {h : Heap} {r : Addr} {i : Ins} {P : Prop} (q : isGet i = true) (x : IsIns fs h r i) (hi : InsOk i) (z : ∀ tw a c j, h.get? r = some (tupO [.str (wordOf i) tw, .ref a, .ref c]) → IsRg h c true j → RgOk true j →
    (∀ {P : Prop}, (wordOf i == Str.ofString "get_variable") = true → (∀ b k, i = .gvar b k j → IsRg h a b k → RgOk b k → P) → P) → (∀ {P : Prop}, (wordOf i == Str.ofString "get_value") = true → (∀ b k, i = .gval b k j → IsRg h a b k → RgOk b k → P) → P) →
    ((wordOf i == Str.ofString "get_variable") = false → (wordOf i == Str.ofString "get_value") = false → i = .gcon j) → P) : P := by
  have no : ∀ {P : Prop} {a b : Str}, (a == b) = true → ¬ ((a == b) = true) → P := fun x y => absurd x y
  cases i with
  | gvar => obtain ⟨t, a, c, e, x, y⟩ := x; exact z _ _ _ _ e y hi.2 (fun _ k => k _ _ rfl x hi.1) (fun q => no q (by show ¬ ((Str.ofString _ == _) = _); decide)) (fun q => absurd q (by show ¬ ((Str.ofString _ == _) = _); decide))
  | gval => obtain ⟨t, a, c, e, x, y⟩ := x; exact z _ _ _ _ e y hi.2 (fun q => no q (by show ¬ ((Str.ofString _ == _) = _); decide)) (fun _ k => k _ _ rfl x hi.1) (fun _ q => absurd q (by show ¬ ((Str.ofString _ == _) = _); decide))
  | gcon => obtain ⟨t, a, c, t1, t2, e, x, y⟩ := x; exact z _ _ _ _ e y hi (fun q => no q (by show ¬ ((Str.ofString _ == _) = _); decide)) (fun q => no q (by show ¬ ((Str.ofString _ == _) = _); decide)) (fun _ _ => rfl)
  | _ => exact absurd q Bool.false_ne_true
theorem put_data {fs : Int → Int} {h : Heap} {r : Addr} {i : Ins} {P : Prop} (q : isPut i = true) (x : IsIns fs h r i) (hi : InsOk i) (z : ∀ tw a c j, h.get? r = some (tupO [.str (wordOf i) tw, .ref a, .ref c]) → IsRg h c true j → RgOk true j →
    (∀ {P : Prop}, (wordOf i == Str.ofString "put_value") = true → (∀ b k, i = .pval b k j → IsRg h a b k → RgOk b k → P) → P) → (∀ {P : Prop}, (wordOf i == Str.ofString "put_variable") = true → (∀ b k, i = .pvar b k j → IsRg h a b k → RgOk b k → P) → P) →
    ((wordOf i == Str.ofString "put_value") = false → (wordOf i == Str.ofString "put_variable") = false → i = .pcon j) → P) : P := by
  have no : ∀ {P : Prop} {a b : Str}, (a == b) = true → ¬ ((a == b) = true) → P := fun x y => absurd x y
  cases i with
  | pvar => obtain ⟨t, a, c, e, x, y⟩ := x; exact z _ _ _ _ e y hi.2 (fun q => no q (by show ¬ ((Str.ofString _ == _) = _); decide)) (fun _ k => k _ _ rfl x hi.1) (fun _ q => absurd q (by show ¬ ((Str.ofString _ == _) = _); decide))
  | pval => obtain ⟨t, a, c, e, x, y⟩ := x; exact z _ _ _ _ e y hi.2 (fun _ k => k _ _ rfl x hi.1) (fun q => no q (by show ¬ ((Str.ofString _ == _) = _); decide)) (fun q => absurd q (by show ¬ ((Str.ofString _ == _) = _); decide))
  | pcon => obtain ⟨t, a, c, t1, t2, e, x, y⟩ := x; exact z _ _ _ _ e y hi (fun q => no q (by show ¬ ((Str.ofString _ == _) = _); decide)) (fun q => no q (by show ¬ ((Str.ofString _ == _) = _); decide)) (fun _ _ => rfl)
  | _ => exact absurd q Bool.false_ne_true
theorem w_ctl (i : Ins) (h1 : isGet i = false) (h2 : isPut i = false) (h3 : isLev i = false) : isCtl i = true := by cases i <;> first | rfl | exact absurd h1 Bool.false_ne_true.symm | exact absurd h2 Bool.false_ne_true.symm | exact absurd h3 Bool.false_ne_true.symm
theorem neck_data {i : Ins} (h : isCtl i = true) (h1 : (wordOf i == Str.ofString "allocate") = false) (h2 : (wordOf i == Str.ofString "deallocate") = false) (h3 : (wordOf i == Str.ofString "call") = false) (h4 : (wordOf i == Str.ofString "execute") = false) (h5 : (wordOf i == Str.ofString "proceed") = false) (h6 : (wordOf i == Str.ofString "builtin") = false) (h7 : (wordOf i == Str.ofString "cut_to") = false) (h8 : (wordOf i == Str.ofString "fail") = false) : i = .neck := by
  cases i with
  | alloc => exact absurd h1 (by show ¬ ((Str.ofString _ == _) = _); decide)
  | dea => exact absurd h2 (by show ¬ ((Str.ofString _ == _) = _); decide)
  | call => exact absurd h3 (by show ¬ ((Str.ofString _ == _) = _); decide)
  | exec => exact absurd h4 (by show ¬ ((Str.ofString _ == _) = _); decide)
  | pro => exact absurd h5 (by show ¬ ((Str.ofString _ == _) = _); decide)
  | blt => exact absurd h6 (by show ¬ ((Str.ofString _ == _) = _); decide)
  | cut => exact absurd h7 (by show ¬ ((Str.ofString _ == _) = _); decide)
  | fail => exact absurd h8 (by show ¬ ((Str.ofString _ == _) = _); decide)
  | neck => rfl
  | _ => exact absurd h Bool.false_ne_true
/-- the slots in their order -/
def srt (ys : List Int) : List Int := [1, 2].filter fun k => decide (k ∈ ys)
theorem flat_tr : ∀ ys : List Int, PyProof.V.FlatPairs PyData.int (tr ys) (ys.map fun k => (PyData.int k, PyData.bool true))
  | [] => .nil
  | _ :: r => .cons (PyProof.V.Flat.bool _) (flat_tr r)
theorem sorted_ys {Y : Addr} {oY : Obj} {ys : List Int} (hh : A.handled = none) (F : Fr g L s.heap m) (X : (hd0.heap_1_39 w.params).In g) (N : News g L s.heap news) (hm : (Y, oY) ∈ news) (hY : oY.IsDictOf (intKind PP w) (tr ys)) (lY : (Y == sysModules) = false) (hys : YsOk ys)
    (h : ∀ (B : Addr) h' tk (vs : List Value) n, Fr g L h' m → News g L h' ((B, listOf vs.toArray n) :: news) → (∀ q ∈ news, q.1 < B) → IntsAre vs (srt ys) → Q (.ref B) { s with heap := h', toks := tk }) :
    wpAny (MM w) A (call (.builtin "sorted") [.ref Y]) Q E s := by
  have Ta : TabAt (intKind PP w) PyData.int s.heap Y (ys.map fun k => (PyData.int k, PyData.bool true)) := ⟨lY, _, kda_dict N hm hY, flat_tr ys⟩
  have hn : (ys.map fun k => (PyData.int k, PyData.bool true)).length ≤ 16777216 := by
    rcases hys.cases with rfl | rfl | rfl | rfl | rfl <;> exact Nat.le_of_ble_eq_true rfl
  refine kdu_sortedD (fun _ _ => kdl_flat_int) hh F N Ta hn fun B h' tk => ?_
  rcases hys.cases with rfl | rfl | rfl | rfl | rfl
  · intro F' N' l1
    walk1
    rename IntsAre _ _ => hI'
    obtain rfl := ints_nil hI' (by assumption)
    exact h _ _ _ _ _ (by assumption) (by assumption) l1 .nil
  · intro v1 hv1 F' N' l1
    obtain ⟨t1, rfl⟩ := PyProof.V.Flat.int_inv hv1
    walk1
    exact h _ _ _ _ _ (by assumption) (by assumption) l1 (.cons _ _ .nil)
  · intro v1 hv1 F' N' l1
    obtain ⟨t1, rfl⟩ := PyProof.V.Flat.int_inv hv1
    walk1
    exact h _ _ _ _ _ (by assumption) (by assumption) l1 (.cons _ _ .nil)
  · intro v1 hv1 v2 hv2 F' N' l1
    obtain ⟨t1, rfl⟩ := PyProof.V.Flat.int_inv hv1
    obtain ⟨t2, rfl⟩ := PyProof.V.Flat.int_inv hv2
    walk1
    exact h _ _ _ _ _ (by assumption) (by assumption) l1 (.cons _ _ (.cons _ _ .nil))
  · intro v1 hv1 v2 hv2 F' N' l1
    obtain ⟨t1, rfl⟩ := PyProof.V.Flat.int_inv hv1
    obtain ⟨t2, rfl⟩ := PyProof.V.Flat.int_inv hv2
    walk1
    exact h _ _ _ _ _ (by assumption) (by assumption) l1 (.cons _ _ (.cons _ _ .nil))

theorem without_tr (xs : List Int) (k : Int) : without (tr xs) k = tr (xs.filter fun a => decide (¬ a = k)) := by
  unfold without
  induction xs with
  | nil => rfl
  | cons a r ih =>
    by_cases h : a = k
    · simp [tr, h] at ih ⊢; exact ih
    · simp [tr, h] at ih ⊢; exact ih
def DelI (ys : List Int) (l : Int) (cur ns : List Int) : Prop := cur = ys.filter (fun k => decide (k ≤ l ∨ k ∈ ns)) ∧ ns.Nodup ∧ ∀ k ∈ ns, k ∈ ys
theorem DelI.start {ys : List Int} {l : Int} (h : YsOk ys) : DelI ys l ys (srt ys) := by
  refine ⟨(List.filter_eq_self.mpr fun k hk => ?_).symm, ?_, fun k hk => ?_⟩
  · have hm : k ∈ srt ys := List.mem_filter.mpr ⟨by rcases h.2 k hk with rfl | rfl <;> simp, decide_eq_true hk⟩
    exact decide_eq_true (.inr hm)
  · exact List.Pairwise.filter _ (by decide : ([1, 2] : List Int).Nodup)
  · exact of_decide_eq_true (List.mem_filter.mp hk).2
theorem DelI.keep {ys : List Int} {l k : Int} {cur r : List Int} (h : DelI ys l cur (k :: r)) (hk : k ≤ l) : DelI ys l cur r := by
  refine ⟨h.1.trans (List.filter_congr fun a _ => ?_), (List.nodup_cons.mp h.2.1).2, fun a ha => h.2.2 a (.tail _ ha)⟩
  refine decide_eq_decide.mpr ⟨fun q => ?_, fun q => q.imp id (.tail _)⟩
  rcases q with q | q
  · exact .inl q
  · rcases List.mem_cons.mp q with rfl | q
    · exact .inl hk
    · exact .inr q
theorem DelI.del {ys : List Int} {l k : Int} {cur r : List Int} (h : DelI ys l cur (k :: r)) (hk : ¬ k ≤ l) : DelI ys l (cur.filter fun a => decide (¬ a = k)) r := by
  refine ⟨?_, (List.nodup_cons.mp h.2.1).2, fun a ha => h.2.2 a (.tail _ ha)⟩
  rw [h.1, List.filter_filter]
  refine List.filter_congr fun a _ => ?_
  rw [← Bool.decide_and]
  refine decide_eq_decide.mpr ⟨fun ⟨q1, q2⟩ => q2.imp id fun q => (List.mem_cons.mp q).resolve_left q1, fun q => ⟨?_, q.imp id (.tail _)⟩⟩
  rintro rfl
  rcases q with q | q
  · exact hk q
  · exact (List.nodup_cons.mp h.2.1).1 q
theorem DelI.has {ys : List Int} {l k : Int} {cur r : List Int} (h : DelI ys l cur (k :: r)) : k ∈ cur := by
  rw [h.1]; exact List.mem_filter.mpr ⟨h.2.2 k (.head _), decide_eq_true (.inr (.head _))⟩
theorem DelI.done {ys : List Int} {l : Int} {cur : List Int} (h : DelI ys l cur []) : cur = kept ys l := by
  rw [h.1]; exact List.filter_congr fun a _ => by simp
theorem DelI.len {ys : List Int} {l : Int} {cur ns : List Int} (h : DelI ys l cur ns) : cur.length ≤ ys.length := by rw [h.1]; exact List.length_filter_le _ _

local macro_rules | `(tactic| walk_at "delItem ref int") => `(tactic| (refine' kob_del (knd := PySem.intKind _ _) ?F ?N ?U ?d (intKind_is _ _ _ _) ?l ?z ?_; (case F => k_asm); (case N => k_asm); (case U => k_updF); (case d => k_asm); (case l => assumption); (case z => exact tr_len (by assumption)); intro h' o' F' N' hd'; (try dsimp only at N')))
inductive SrtI (w : World) (B dN x dx S Y X dS lf r lt dn df : Addr) (V : SyT) (T : CkT) (size : Int) (e : Bool) (fc : Str) (t1 t' : Tok) (vs fv : List Value) (nB nF : Nat) (oN oX : Obj) (ys : List Int) (n : Int) (rs : List Value) (m' : Str → Option Value) (news' : List (Addr × Obj)) : Prop where
  | mk (sv : Option Value) (cur : List Int) (oY' : Obj) (ns : List Int) (e0 : m' = (fun y => if y = Str.ofString "slot" then sv else List.lookup y [(Str.ofString "ins", Value.ref r), (Str.ofString "self", Value.ref x)])) (e1 : news' = [(B, listOf vs.toArray nB), (dN, oN), (x, instObj 337 dx), (dx, ckO w T S dN Y size e fc t1 t'), (X, oX), (Y, oY'), (S, instObj 155 dS), (dS, syO w V lt dn lf df), (lf, listOf fv.toArray nF)]) (e2 : oY'.IsDictOf (intKind PP w) (tr cur)) (e3 : IntsAre rs ns) (e4 : DelI ys n cur ns)
theorem step_all (i : Ins) : StepC w i := by
  intro A base outer s p loose mean mg mb R x dx S dS lt dn lf df X Y r T V c t1 t5 oX oY fv nF D C hd hu hD hE hX hY hlx hly hys lX lY hf hr hi hsize nt z
  have zz : ∀ f sz e t1' t5' h' tk' X' Y' oX' oY' xs' ys', h'.get? dx = some (ckO w T S X' Y' sz e f t1' t5') → h'.get? X' = some oX' → h'.get? Y' = some oY' → oX'.IsDictOf (intKind PP w) (tr xs') → oY'.IsDictOf (intKind PP w) (tr ys') → (X' == sysModules) = false → (Y' == sysModules) = false →
      Dist x dx X' Y' → DistS dx X' Y' S dS lf → Keeps [dx, X, Y] s.heap h' → (X' = X ∨ s.heap.get? X' = none) → (Y' = Y ∨ s.heap.get? Y' = none) → ckStep c i = ⟨xs', ys', sz, e, f⟩ → R (.ok (.ret .none)) { s with heap := h', toks := tk' } := by
    intro f sz e t1' t5' h' tk' X' Y' oX' oY' xs' ys' h1 h2 h3 h4 h5 h6 h7 h8 h9 h10 h11 h12 q
    refine z t1' t5' h' tk' X' Y' oX' oY' h10 ?_ h2 h3 ?_ ?_ h11 h12 h8 h9 h6 h7
    · rw [q]; exact h1
    · rw [q]; exact h4
    · rw [q]; exact h5
  obtain ⟨xs, ys, size, e, ft⟩ := c
  dsimp only at *
  obtain ⟨tw, ops, er⟩ := hr.wd
  generalize hw : wordOf i = word at er
  refine' enter 560 1600 (binds := [(Str.ofString "self", .ref x), (Str.ofString "ins", .ref r)]) D C.X C.T hd hu ?k6 ?k7 ?k8 ?k9 ?kB ?_ ?c2 ?c3 ?c4 ?c5
  walk_at "my enter"
  intro g L h₁ tk eL hg hgs F N l1 B X' T' env1
  have at0 := D.at_
  clear D
  k_lt l1
  refine Dist.elim hD fun d1 d2 d3 d4 d5 d6 e1 e2 e3 e4 e5 e6 => ?_
  refine DistS.elim hE fun f1 f2 f3 f4 f5 f6 f7 f8 f9 f11 f12 f13 f14 f15 f16 f17 f18 f19 => ?_
  have hrg := hr.keep hg nt
  replace hf := hf.keep hg nt
  have htup : IsTup g r (.str word tw :: ops).toArray := ⟨_, hg _ _ er fun q => nt _ q _ er rfl, rfl, 0, rfl⟩
  clear er hr
  have uw : ∀ l ∈ [Str.ofString "put_list", Str.ofString "put_structure", Str.ofString "put_unsafe_value", Str.ofString "get_list", Str.ofString "get_structure", Str.ofString "mark", Str.ofString "halt"], ¬ ((word == l) = true) := by rw [← hw]; exact w_none i
  have u1 : ¬ (Txt.startswith word (Str.ofString "unify_") = true) := by rw [← hw, w_unify]; exact Bool.false_ne_true
  have u2 : ¬ (Txt.startswith word (Str.ofString "set_") = true) := by rw [← hw, w_set]; exact Bool.false_ne_true
  have u3 := uw _ (.head _)
  have u4 := uw _ (.tail _ (.head _))
  have u5 := uw _ (.tail _ (.tail _ (.head _)))
  have u6 := uw _ (.tail _ (.tail _ (.tail _ (.head _))))
  have u7 := uw _ (.tail _ (.tail _ (.tail _ (.tail _ (.head _)))))
  have u8 := uw _ (.tail _ (.tail _ (.tail _ (.tail _ (.tail _ (.head _))))))
  have u9 := uw _ (.tail _ (.tail _ (.tail _ (.tail _ (.tail _ (.tail _ (.head _)))))))
  clear uw
  repeat' (first | (first | walk_at "my step" | (((fail_if_success (fail_if_success (with_reducible show wpAny _ _ (call (Value.ref 257) _) _ _ _))); refine' complain_use (by assumption) (by assumption) (by assumption) (by assumption) rfl rfl rfl rfl (Nat.le_of_ble_eq_true rfl) (Nat.le_of_ble_eq_true rfl) (by k_mem) (by assumption) ?hU ?_; (case hU => (intro _; k_upd)); intro t'_m h'_m tk'_m F'_m N'_m; (try dsimp only at N'_m); (try dsimp only); (try k_sweep)))) | ((with_reducible show wpAny _ _ (subscriptTail _ _ (Value.ref _) (Value.int 0 _)) _ _ _); refine item_tupleT (j := 0) (x := .str word tw) (Fr.tup (by assumption) htup) (by decide) (by decide) (by simp [seqIndex?]) rfl ?_; (try dsimp only)))
  · refine lev_data (by rw [hw]; assumption) hrg hi fun b k tw' a ei er' ha i1 => ?_
    replace htup := tup_of er'
    replace hw : word = Str.ofString "get_level" := by rw [← hw, ei]; rfl
    (repeat' (first | walk_at "my step" | (((fail_if_success (fail_if_success (with_reducible show wpAny _ _ (call (Value.ref 257) _) _ _ _))); refine' complain_use (by assumption) (by assumption) (by assumption) (by assumption) rfl rfl rfl rfl (Nat.le_of_ble_eq_true rfl) (Nat.le_of_ble_eq_true rfl) (by k_mem) (by assumption) ?hU ?_; (case hU => (intro _; k_upd)); intro t'_m h'_m tk'_m F'_m N'_m; (try dsimp only at N'_m); (try dsimp only); (try k_sweep))) | (((fail_if_success (fail_if_success (with_reducible show wpAny _ _ (call (Value.ref 264) _) _ _ _))); refine' read_use (by assumption) (by assumption) (by assumption) (by assumption) rfl rfl rfl rfl (Nat.le_of_ble_eq_true rfl) (Nat.le_of_ble_eq_true rfl) (by k_mem) (by intro _; k_upd) (by k_mem) (by k_mem) (by assumption) (by assumption) (by assumption) (by assumption) (by assumption) (by assumption) (by (first | exact stay1 (by assumption) | exact stay2 (by assumption) (by assumption) | exact stay3 (by assumption) (by assumption) (by assumption))) (by assumption) (by assumption) ?_; intro t'_m h'_m tk'_m F'_m N'_m; (try dsimp only at N'_m); (try dsimp only); (try k_sweep))) | (((fail_if_success (fail_if_success (with_reducible show wpAny _ _ (call (Value.ref 271) _) _ _ _))); refine' write_use (by assumption) (by assumption) (by assumption) (by assumption) rfl rfl rfl rfl (Nat.le_of_ble_eq_true rfl) (Nat.le_of_ble_eq_true rfl) (by k_mem) (by intro _; k_upd) (by k_mem) (by k_mem) (by intro _ _; k_upd) (by intro _ _ _; k_upd) (by assumption) (by assumption) (by assumption) ?hl1 ?hl2 (by assumption) (by assumption) (by assumption) (by (first | exact stay1 (by assumption) | exact stay2 (by assumption) (by assumption) | exact stay3 (by assumption) (by assumption) (by assumption))) (by assumption) (by assumption) ?_; (case hl1 => first | omega | (have := @wrx_len; exact Nat.le_trans wrx_len (by omega))); (case hl2 => first | omega | exact Nat.le_trans wry_len (by omega)); intro t'_m h'_m tk'_m oX'_m oY'_m F'_m N'_m hX'_m hY'_m; (try dsimp only at N'_m); (try dsimp only); (try k_sweep))) | (((fail_if_success (fail_if_success (with_reducible show wpAny _ _ (call (Value.ref 278) _) _ _ _))); refine' args_use (by assumption) (by assumption) (by assumption) (by assumption) rfl rfl rfl rfl (Nat.le_of_ble_eq_true rfl) (Nat.le_of_ble_eq_true rfl) (by k_mem) (by intro _; k_upd) (by k_mem) (by k_mem) (by k_mem) (by k_mem) (by assumption) (by assumption) (by assumption) (by assumption) (by assumption) (by (first | exact stay1 (by assumption) | exact stay2 (by assumption) (by assumption) | exact stay3 (by assumption) (by assumption) (by assumption))) (by omega) ?_; intro t'_m h'_m tk'_m F'_m N'_m; (try dsimp only at N'_m); (try dsimp only); (try k_sweep))) | (((first | (fail_if_success (fail_if_success (with_reducible show wpAny _ _ (call (Value.ref 299) _) _ _ _))) | (fail_if_success (fail_if_success (with_reducible show wpAny _ _ (call (Value.ref 306) _) _ _ _))) | (fail_if_success (fail_if_success (with_reducible show wpAny _ _ (call (Value.ref 313) _) _ _ _))) | (fail_if_success (fail_if_success (with_reducible show wpAny _ _ (call (Value.ref 320) _) _ _ _))) | (fail_if_success (fail_if_success (with_reducible show wpAny _ _ (call (Value.ref 327) _) _ _ _)))); k_dflt (refine' open2 (n1 := Str.ofString "self") (n2 := Str.ofString "ins") ?k1 ?k2 ?k3 ?k4 ?k5 ?kA ?kF ?kK ?k6 ?k7 ?k8 ?k9 ?kB ?_ ?c2 ?c3 ?c4 ?c5; walk_at "my opened")))))
    all_goals
      refine zz _ _ _ _ _ _ _ _ _ _ _ _ _ (News.get (by assumption) (by k_mem)) (News.get (by assumption) (by k_mem)) (News.get (by assumption) (by k_mem)) (by (first | assumption | exact (show Obj.IsDictOf (intKind PP _) _ (tr []) from (by assumption : Obj.IsDictOf (intKind PP _) _ [])))) (by (first | assumption | exact (show Obj.IsDictOf (intKind PP _) _ (tr []) from (by assumption : Obj.IsDictOf (intKind PP _) _ [])))) (by assumption) (by assumption) (by (first | assumption | exact Dist.newY (by assumption) (by assumption) | exact Dist.newX (by assumption) (by assumption))) (by (first | assumption | exact DistS.newY (by assumption) (by assumption) | exact DistS.newX (by assumption) (by assumption))) (keeps7 at0 hg (by assumption) (by assumption) (by k_mem) (by k_mem) (by k_mem) (by k_mem)) (by (first | exact .inl rfl | exact .inr (freshOf (by assumption) (newNoneN (by assumption) (by k_mem)) (notIn7L (by assumption))))) (by (first | exact .inl rfl | exact .inr (freshOf (by assumption) (newNoneN (by assumption) (by k_mem)) (notIn7L (by assumption))))) (by rw [ei]; (first | rfl | (simp only [ckStep, ckLeave, ckCall]; first | rfl | (rw [if_pos (by omega)]; done) | (rw [if_neg (by omega)]; done))))
  · have q : (word == Str.ofString "get_level") = false := by assumption
    have q2 : Txt.startswith word (Str.ofString "get_") = true := by assumption
    rw [← hw, w_lev] at q
    rw [← hw, w_get, q, Bool.or_false] at q2
    refine get_data q2 hrg hi fun tw' a c0 j er' hc i2 c1 c2 c3 => ?_
    rw [hw] at er' c1 c2 c3
    replace htup := tup_of er'
    (repeat' (first | walk_at "my step" | (((fail_if_success (fail_if_success (with_reducible show wpAny _ _ (call (Value.ref 257) _) _ _ _))); refine' complain_use (by assumption) (by assumption) (by assumption) (by assumption) rfl rfl rfl rfl (Nat.le_of_ble_eq_true rfl) (Nat.le_of_ble_eq_true rfl) (by k_mem) (by assumption) ?hU ?_; (case hU => (intro _; k_upd)); intro t'_m h'_m tk'_m F'_m N'_m; (try dsimp only at N'_m); (try dsimp only); (try k_sweep))) | (((fail_if_success (fail_if_success (with_reducible show wpAny _ _ (call (Value.ref 264) _) _ _ _))); refine' read_use (by assumption) (by assumption) (by assumption) (by assumption) rfl rfl rfl rfl (Nat.le_of_ble_eq_true rfl) (Nat.le_of_ble_eq_true rfl) (by k_mem) (by intro _; k_upd) (by k_mem) (by k_mem) (by assumption) (by assumption) (by assumption) (by assumption) (by assumption) (by assumption) (by (first | exact stay1 (by assumption) | exact stay2 (by assumption) (by assumption) | exact stay3 (by assumption) (by assumption) (by assumption))) (by assumption) (by assumption) ?_; intro t'_m h'_m tk'_m F'_m N'_m; (try dsimp only at N'_m); (try dsimp only); (try k_sweep))) | (((fail_if_success (fail_if_success (with_reducible show wpAny _ _ (call (Value.ref 271) _) _ _ _))); refine' write_use (by assumption) (by assumption) (by assumption) (by assumption) rfl rfl rfl rfl (Nat.le_of_ble_eq_true rfl) (Nat.le_of_ble_eq_true rfl) (by k_mem) (by intro _; k_upd) (by k_mem) (by k_mem) (by intro _ _; k_upd) (by intro _ _ _; k_upd) (by assumption) (by assumption) (by assumption) ?hl1 ?hl2 (by assumption) (by assumption) (by assumption) (by (first | exact stay1 (by assumption) | exact stay2 (by assumption) (by assumption) | exact stay3 (by assumption) (by assumption) (by assumption))) (by assumption) (by assumption) ?_; (case hl1 => first | omega | (have := @wrx_len; exact Nat.le_trans wrx_len (by omega))); (case hl2 => first | omega | exact Nat.le_trans wry_len (by omega)); intro t'_m h'_m tk'_m oX'_m oY'_m F'_m N'_m hX'_m hY'_m; (try dsimp only at N'_m); (try dsimp only); (try k_sweep))) | (((fail_if_success (fail_if_success (with_reducible show wpAny _ _ (call (Value.ref 278) _) _ _ _))); refine' args_use (by assumption) (by assumption) (by assumption) (by assumption) rfl rfl rfl rfl (Nat.le_of_ble_eq_true rfl) (Nat.le_of_ble_eq_true rfl) (by k_mem) (by intro _; k_upd) (by k_mem) (by k_mem) (by k_mem) (by k_mem) (by assumption) (by assumption) (by assumption) (by assumption) (by assumption) (by (first | exact stay1 (by assumption) | exact stay2 (by assumption) (by assumption) | exact stay3 (by assumption) (by assumption) (by assumption))) (by omega) ?_; intro t'_m h'_m tk'_m F'_m N'_m; (try dsimp only at N'_m); (try dsimp only); (try k_sweep))) | (((first | (fail_if_success (fail_if_success (with_reducible show wpAny _ _ (call (Value.ref 299) _) _ _ _))) | (fail_if_success (fail_if_success (with_reducible show wpAny _ _ (call (Value.ref 306) _) _ _ _))) | (fail_if_success (fail_if_success (with_reducible show wpAny _ _ (call (Value.ref 313) _) _ _ _))) | (fail_if_success (fail_if_success (with_reducible show wpAny _ _ (call (Value.ref 320) _) _ _ _))) | (fail_if_success (fail_if_success (with_reducible show wpAny _ _ (call (Value.ref 327) _) _ _ _)))); k_dflt (refine' open2 (n1 := Str.ofString "self") (n2 := Str.ofString "ins") ?k1 ?k2 ?k3 ?k4 ?k5 ?kA ?kF ?kK ?k6 ?k7 ?k8 ?k9 ?kB ?_ ?c2 ?c3 ?c4 ?c5; walk_at "my opened")))))
    · refine c1 (by assumption) fun b k ei ha hk => ?_
      (repeat' (first | walk_at "my step" | (((fail_if_success (fail_if_success (with_reducible show wpAny _ _ (call (Value.ref 257) _) _ _ _))); refine' complain_use (by assumption) (by assumption) (by assumption) (by assumption) rfl rfl rfl rfl (Nat.le_of_ble_eq_true rfl) (Nat.le_of_ble_eq_true rfl) (by k_mem) (by assumption) ?hU ?_; (case hU => (intro _; k_upd)); intro t'_m h'_m tk'_m F'_m N'_m; (try dsimp only at N'_m); (try dsimp only); (try k_sweep))) | (((fail_if_success (fail_if_success (with_reducible show wpAny _ _ (call (Value.ref 264) _) _ _ _))); refine' read_use (by assumption) (by assumption) (by assumption) (by assumption) rfl rfl rfl rfl (Nat.le_of_ble_eq_true rfl) (Nat.le_of_ble_eq_true rfl) (by k_mem) (by intro _; k_upd) (by k_mem) (by k_mem) (by assumption) (by assumption) (by assumption) (by assumption) (by assumption) (by assumption) (by (first | exact stay1 (by assumption) | exact stay2 (by assumption) (by assumption) | exact stay3 (by assumption) (by assumption) (by assumption))) (by assumption) (by assumption) ?_; intro t'_m h'_m tk'_m F'_m N'_m; (try dsimp only at N'_m); (try dsimp only); (try k_sweep))) | (((fail_if_success (fail_if_success (with_reducible show wpAny _ _ (call (Value.ref 271) _) _ _ _))); refine' write_use (by assumption) (by assumption) (by assumption) (by assumption) rfl rfl rfl rfl (Nat.le_of_ble_eq_true rfl) (Nat.le_of_ble_eq_true rfl) (by k_mem) (by intro _; k_upd) (by k_mem) (by k_mem) (by intro _ _; k_upd) (by intro _ _ _; k_upd) (by assumption) (by assumption) (by assumption) ?hl1 ?hl2 (by assumption) (by assumption) (by assumption) (by (first | exact stay1 (by assumption) | exact stay2 (by assumption) (by assumption) | exact stay3 (by assumption) (by assumption) (by assumption))) (by assumption) (by assumption) ?_; (case hl1 => first | omega | (have := @wrx_len; exact Nat.le_trans wrx_len (by omega))); (case hl2 => first | omega | exact Nat.le_trans wry_len (by omega)); intro t'_m h'_m tk'_m oX'_m oY'_m F'_m N'_m hX'_m hY'_m; (try dsimp only at N'_m); (try dsimp only); (try k_sweep))) | (((fail_if_success (fail_if_success (with_reducible show wpAny _ _ (call (Value.ref 278) _) _ _ _))); refine' args_use (by assumption) (by assumption) (by assumption) (by assumption) rfl rfl rfl rfl (Nat.le_of_ble_eq_true rfl) (Nat.le_of_ble_eq_true rfl) (by k_mem) (by intro _; k_upd) (by k_mem) (by k_mem) (by k_mem) (by k_mem) (by assumption) (by assumption) (by assumption) (by assumption) (by assumption) (by (first | exact stay1 (by assumption) | exact stay2 (by assumption) (by assumption) | exact stay3 (by assumption) (by assumption) (by assumption))) (by omega) ?_; intro t'_m h'_m tk'_m F'_m N'_m; (try dsimp only at N'_m); (try dsimp only); (try k_sweep))) | (((first | (fail_if_success (fail_if_success (with_reducible show wpAny _ _ (call (Value.ref 299) _) _ _ _))) | (fail_if_success (fail_if_success (with_reducible show wpAny _ _ (call (Value.ref 306) _) _ _ _))) | (fail_if_success (fail_if_success (with_reducible show wpAny _ _ (call (Value.ref 313) _) _ _ _))) | (fail_if_success (fail_if_success (with_reducible show wpAny _ _ (call (Value.ref 320) _) _ _ _))) | (fail_if_success (fail_if_success (with_reducible show wpAny _ _ (call (Value.ref 327) _) _ _ _)))); k_dflt (refine' open2 (n1 := Str.ofString "self") (n2 := Str.ofString "ins") ?k1 ?k2 ?k3 ?k4 ?k5 ?kA ?kF ?kK ?k6 ?k7 ?k8 ?k9 ?kB ?_ ?c2 ?c3 ?c4 ?c5; walk_at "my opened")))))
      all_goals
        refine zz _ _ _ _ _ _ _ _ _ _ _ _ _ (News.get (by assumption) (by k_mem)) (News.get (by assumption) (by k_mem)) (News.get (by assumption) (by k_mem)) (by (first | assumption | exact (show Obj.IsDictOf (intKind PP _) _ (tr []) from (by assumption : Obj.IsDictOf (intKind PP _) _ [])))) (by (first | assumption | exact (show Obj.IsDictOf (intKind PP _) _ (tr []) from (by assumption : Obj.IsDictOf (intKind PP _) _ [])))) (by assumption) (by assumption) (by (first | assumption | exact Dist.newY (by assumption) (by assumption) | exact Dist.newX (by assumption) (by assumption))) (by (first | assumption | exact DistS.newY (by assumption) (by assumption) | exact DistS.newX (by assumption) (by assumption))) (keeps7 at0 hg (by assumption) (by assumption) (by k_mem) (by k_mem) (by k_mem) (by k_mem)) (by (first | exact .inl rfl | exact .inr (freshOf (by assumption) (newNoneN (by assumption) (by k_mem)) (notIn7L (by assumption))))) (by (first | exact .inl rfl | exact .inr (freshOf (by assumption) (newNoneN (by assumption) (by k_mem)) (notIn7L (by assumption))))) (by rw [ei]; (first | rfl | (simp only [ckStep, ckLeave, ckCall]; first | rfl | (rw [if_pos (by omega)]; done) | (rw [if_neg (by omega)]; done))))
    · refine c2 (by assumption) fun b k ei ha hk => ?_
      (repeat' (first | walk_at "my step" | (((fail_if_success (fail_if_success (with_reducible show wpAny _ _ (call (Value.ref 257) _) _ _ _))); refine' complain_use (by assumption) (by assumption) (by assumption) (by assumption) rfl rfl rfl rfl (Nat.le_of_ble_eq_true rfl) (Nat.le_of_ble_eq_true rfl) (by k_mem) (by assumption) ?hU ?_; (case hU => (intro _; k_upd)); intro t'_m h'_m tk'_m F'_m N'_m; (try dsimp only at N'_m); (try dsimp only); (try k_sweep))) | (((fail_if_success (fail_if_success (with_reducible show wpAny _ _ (call (Value.ref 264) _) _ _ _))); refine' read_use (by assumption) (by assumption) (by assumption) (by assumption) rfl rfl rfl rfl (Nat.le_of_ble_eq_true rfl) (Nat.le_of_ble_eq_true rfl) (by k_mem) (by intro _; k_upd) (by k_mem) (by k_mem) (by assumption) (by assumption) (by assumption) (by assumption) (by assumption) (by assumption) (by (first | exact stay1 (by assumption) | exact stay2 (by assumption) (by assumption) | exact stay3 (by assumption) (by assumption) (by assumption))) (by assumption) (by assumption) ?_; intro t'_m h'_m tk'_m F'_m N'_m; (try dsimp only at N'_m); (try dsimp only); (try k_sweep))) | (((fail_if_success (fail_if_success (with_reducible show wpAny _ _ (call (Value.ref 271) _) _ _ _))); refine' write_use (by assumption) (by assumption) (by assumption) (by assumption) rfl rfl rfl rfl (Nat.le_of_ble_eq_true rfl) (Nat.le_of_ble_eq_true rfl) (by k_mem) (by intro _; k_upd) (by k_mem) (by k_mem) (by intro _ _; k_upd) (by intro _ _ _; k_upd) (by assumption) (by assumption) (by assumption) ?hl1 ?hl2 (by assumption) (by assumption) (by assumption) (by (first | exact stay1 (by assumption) | exact stay2 (by assumption) (by assumption) | exact stay3 (by assumption) (by assumption) (by assumption))) (by assumption) (by assumption) ?_; (case hl1 => first | omega | (have := @wrx_len; exact Nat.le_trans wrx_len (by omega))); (case hl2 => first | omega | exact Nat.le_trans wry_len (by omega)); intro t'_m h'_m tk'_m oX'_m oY'_m F'_m N'_m hX'_m hY'_m; (try dsimp only at N'_m); (try dsimp only); (try k_sweep))) | (((fail_if_success (fail_if_success (with_reducible show wpAny _ _ (call (Value.ref 278) _) _ _ _))); refine' args_use (by assumption) (by assumption) (by assumption) (by assumption) rfl rfl rfl rfl (Nat.le_of_ble_eq_true rfl) (Nat.le_of_ble_eq_true rfl) (by k_mem) (by intro _; k_upd) (by k_mem) (by k_mem) (by k_mem) (by k_mem) (by assumption) (by assumption) (by assumption) (by assumption) (by assumption) (by (first | exact stay1 (by assumption) | exact stay2 (by assumption) (by assumption) | exact stay3 (by assumption) (by assumption) (by assumption))) (by omega) ?_; intro t'_m h'_m tk'_m F'_m N'_m; (try dsimp only at N'_m); (try dsimp only); (try k_sweep))) | (((first | (fail_if_success (fail_if_success (with_reducible show wpAny _ _ (call (Value.ref 299) _) _ _ _))) | (fail_if_success (fail_if_success (with_reducible show wpAny _ _ (call (Value.ref 306) _) _ _ _))) | (fail_if_success (fail_if_success (with_reducible show wpAny _ _ (call (Value.ref 313) _) _ _ _))) | (fail_if_success (fail_if_success (with_reducible show wpAny _ _ (call (Value.ref 320) _) _ _ _))) | (fail_if_success (fail_if_success (with_reducible show wpAny _ _ (call (Value.ref 327) _) _ _ _)))); k_dflt (refine' open2 (n1 := Str.ofString "self") (n2 := Str.ofString "ins") ?k1 ?k2 ?k3 ?k4 ?k5 ?kA ?kF ?kK ?k6 ?k7 ?k8 ?k9 ?kB ?_ ?c2 ?c3 ?c4 ?c5; walk_at "my opened")))))
      all_goals
        refine zz _ _ _ _ _ _ _ _ _ _ _ _ _ (News.get (by assumption) (by k_mem)) (News.get (by assumption) (by k_mem)) (News.get (by assumption) (by k_mem)) (by (first | assumption | exact (show Obj.IsDictOf (intKind PP _) _ (tr []) from (by assumption : Obj.IsDictOf (intKind PP _) _ [])))) (by (first | assumption | exact (show Obj.IsDictOf (intKind PP _) _ (tr []) from (by assumption : Obj.IsDictOf (intKind PP _) _ [])))) (by assumption) (by assumption) (by (first | assumption | exact Dist.newY (by assumption) (by assumption) | exact Dist.newX (by assumption) (by assumption))) (by (first | assumption | exact DistS.newY (by assumption) (by assumption) | exact DistS.newX (by assumption) (by assumption))) (keeps7 at0 hg (by assumption) (by assumption) (by k_mem) (by k_mem) (by k_mem) (by k_mem)) (by (first | exact .inl rfl | exact .inr (freshOf (by assumption) (newNoneN (by assumption) (by k_mem)) (notIn7L (by assumption))))) (by (first | exact .inl rfl | exact .inr (freshOf (by assumption) (newNoneN (by assumption) (by k_mem)) (notIn7L (by assumption))))) (by rw [ei]; (first | rfl | (simp only [ckStep, ckLeave, ckCall]; first | rfl | (rw [if_pos (by omega)]; done) | (rw [if_neg (by omega)]; done))))
    · have ei := c3 (by assumption) (by assumption)
      refine zz _ _ _ _ _ _ _ _ _ _ _ _ _ (News.get (by assumption) (by k_mem)) (News.get (by assumption) (by k_mem)) (News.get (by assumption) (by k_mem)) (by (first | assumption | exact (show Obj.IsDictOf (intKind PP _) _ (tr []) from (by assumption : Obj.IsDictOf (intKind PP _) _ [])))) (by (first | assumption | exact (show Obj.IsDictOf (intKind PP _) _ (tr []) from (by assumption : Obj.IsDictOf (intKind PP _) _ [])))) (by assumption) (by assumption) (by (first | assumption | exact Dist.newY (by assumption) (by assumption) | exact Dist.newX (by assumption) (by assumption))) (by (first | assumption | exact DistS.newY (by assumption) (by assumption) | exact DistS.newX (by assumption) (by assumption))) (keeps7 at0 hg (by assumption) (by assumption) (by k_mem) (by k_mem) (by k_mem) (by k_mem)) (by (first | exact .inl rfl | exact .inr (freshOf (by assumption) (newNoneN (by assumption) (by k_mem)) (notIn7L (by assumption))))) (by (first | exact .inl rfl | exact .inr (freshOf (by assumption) (newNoneN (by assumption) (by k_mem)) (notIn7L (by assumption))))) (by rw [ei]; (first | rfl | (simp only [ckStep, ckLeave, ckCall]; first | rfl | (rw [if_pos (by omega)]; done) | (rw [if_neg (by omega)]; done))))
  · have q2 : Txt.startswith word (Str.ofString "put_") = true := by assumption
    rw [← hw, w_put] at q2
    refine put_data q2 hrg hi fun tw' a c0 j er' hc i2 c1 c2 c3 => ?_
    rw [hw] at er' c1 c2 c3
    replace htup := tup_of er'
    (repeat' (first | walk_at "my step" | (((fail_if_success (fail_if_success (with_reducible show wpAny _ _ (call (Value.ref 257) _) _ _ _))); refine' complain_use (by assumption) (by assumption) (by assumption) (by assumption) rfl rfl rfl rfl (Nat.le_of_ble_eq_true rfl) (Nat.le_of_ble_eq_true rfl) (by k_mem) (by assumption) ?hU ?_; (case hU => (intro _; k_upd)); intro t'_m h'_m tk'_m F'_m N'_m; (try dsimp only at N'_m); (try dsimp only); (try k_sweep))) | (((fail_if_success (fail_if_success (with_reducible show wpAny _ _ (call (Value.ref 264) _) _ _ _))); refine' read_use (by assumption) (by assumption) (by assumption) (by assumption) rfl rfl rfl rfl (Nat.le_of_ble_eq_true rfl) (Nat.le_of_ble_eq_true rfl) (by k_mem) (by intro _; k_upd) (by k_mem) (by k_mem) (by assumption) (by assumption) (by assumption) (by assumption) (by assumption) (by assumption) (by (first | exact stay1 (by assumption) | exact stay2 (by assumption) (by assumption) | exact stay3 (by assumption) (by assumption) (by assumption))) (by assumption) (by assumption) ?_; intro t'_m h'_m tk'_m F'_m N'_m; (try dsimp only at N'_m); (try dsimp only); (try k_sweep))) | (((fail_if_success (fail_if_success (with_reducible show wpAny _ _ (call (Value.ref 271) _) _ _ _))); refine' write_use (by assumption) (by assumption) (by assumption) (by assumption) rfl rfl rfl rfl (Nat.le_of_ble_eq_true rfl) (Nat.le_of_ble_eq_true rfl) (by k_mem) (by intro _; k_upd) (by k_mem) (by k_mem) (by intro _ _; k_upd) (by intro _ _ _; k_upd) (by assumption) (by assumption) (by assumption) ?hl1 ?hl2 (by assumption) (by assumption) (by assumption) (by (first | exact stay1 (by assumption) | exact stay2 (by assumption) (by assumption) | exact stay3 (by assumption) (by assumption) (by assumption))) (by assumption) (by assumption) ?_; (case hl1 => first | omega | (have := @wrx_len; exact Nat.le_trans wrx_len (by omega))); (case hl2 => first | omega | exact Nat.le_trans wry_len (by omega)); intro t'_m h'_m tk'_m oX'_m oY'_m F'_m N'_m hX'_m hY'_m; (try dsimp only at N'_m); (try dsimp only); (try k_sweep))) | (((fail_if_success (fail_if_success (with_reducible show wpAny _ _ (call (Value.ref 278) _) _ _ _))); refine' args_use (by assumption) (by assumption) (by assumption) (by assumption) rfl rfl rfl rfl (Nat.le_of_ble_eq_true rfl) (Nat.le_of_ble_eq_true rfl) (by k_mem) (by intro _; k_upd) (by k_mem) (by k_mem) (by k_mem) (by k_mem) (by assumption) (by assumption) (by assumption) (by assumption) (by assumption) (by (first | exact stay1 (by assumption) | exact stay2 (by assumption) (by assumption) | exact stay3 (by assumption) (by assumption) (by assumption))) (by omega) ?_; intro t'_m h'_m tk'_m F'_m N'_m; (try dsimp only at N'_m); (try dsimp only); (try k_sweep))) | (((first | (fail_if_success (fail_if_success (with_reducible show wpAny _ _ (call (Value.ref 299) _) _ _ _))) | (fail_if_success (fail_if_success (with_reducible show wpAny _ _ (call (Value.ref 306) _) _ _ _))) | (fail_if_success (fail_if_success (with_reducible show wpAny _ _ (call (Value.ref 313) _) _ _ _))) | (fail_if_success (fail_if_success (with_reducible show wpAny _ _ (call (Value.ref 320) _) _ _ _))) | (fail_if_success (fail_if_success (with_reducible show wpAny _ _ (call (Value.ref 327) _) _ _ _)))); k_dflt (refine' open2 (n1 := Str.ofString "self") (n2 := Str.ofString "ins") ?k1 ?k2 ?k3 ?k4 ?k5 ?kA ?kF ?kK ?k6 ?k7 ?k8 ?k9 ?kB ?_ ?c2 ?c3 ?c4 ?c5; walk_at "my opened")))))
    · refine c1 (by assumption) fun b k ei ha hk => ?_
      (repeat' (first | walk_at "my step" | (((fail_if_success (fail_if_success (with_reducible show wpAny _ _ (call (Value.ref 257) _) _ _ _))); refine' complain_use (by assumption) (by assumption) (by assumption) (by assumption) rfl rfl rfl rfl (Nat.le_of_ble_eq_true rfl) (Nat.le_of_ble_eq_true rfl) (by k_mem) (by assumption) ?hU ?_; (case hU => (intro _; k_upd)); intro t'_m h'_m tk'_m F'_m N'_m; (try dsimp only at N'_m); (try dsimp only); (try k_sweep))) | (((fail_if_success (fail_if_success (with_reducible show wpAny _ _ (call (Value.ref 264) _) _ _ _))); refine' read_use (by assumption) (by assumption) (by assumption) (by assumption) rfl rfl rfl rfl (Nat.le_of_ble_eq_true rfl) (Nat.le_of_ble_eq_true rfl) (by k_mem) (by intro _; k_upd) (by k_mem) (by k_mem) (by assumption) (by assumption) (by assumption) (by assumption) (by assumption) (by assumption) (by (first | exact stay1 (by assumption) | exact stay2 (by assumption) (by assumption) | exact stay3 (by assumption) (by assumption) (by assumption))) (by assumption) (by assumption) ?_; intro t'_m h'_m tk'_m F'_m N'_m; (try dsimp only at N'_m); (try dsimp only); (try k_sweep))) | (((fail_if_success (fail_if_success (with_reducible show wpAny _ _ (call (Value.ref 271) _) _ _ _))); refine' write_use (by assumption) (by assumption) (by assumption) (by assumption) rfl rfl rfl rfl (Nat.le_of_ble_eq_true rfl) (Nat.le_of_ble_eq_true rfl) (by k_mem) (by intro _; k_upd) (by k_mem) (by k_mem) (by intro _ _; k_upd) (by intro _ _ _; k_upd) (by assumption) (by assumption) (by assumption) ?hl1 ?hl2 (by assumption) (by assumption) (by assumption) (by (first | exact stay1 (by assumption) | exact stay2 (by assumption) (by assumption) | exact stay3 (by assumption) (by assumption) (by assumption))) (by assumption) (by assumption) ?_; (case hl1 => first | omega | (have := @wrx_len; exact Nat.le_trans wrx_len (by omega))); (case hl2 => first | omega | exact Nat.le_trans wry_len (by omega)); intro t'_m h'_m tk'_m oX'_m oY'_m F'_m N'_m hX'_m hY'_m; (try dsimp only at N'_m); (try dsimp only); (try k_sweep))) | (((fail_if_success (fail_if_success (with_reducible show wpAny _ _ (call (Value.ref 278) _) _ _ _))); refine' args_use (by assumption) (by assumption) (by assumption) (by assumption) rfl rfl rfl rfl (Nat.le_of_ble_eq_true rfl) (Nat.le_of_ble_eq_true rfl) (by k_mem) (by intro _; k_upd) (by k_mem) (by k_mem) (by k_mem) (by k_mem) (by assumption) (by assumption) (by assumption) (by assumption) (by assumption) (by (first | exact stay1 (by assumption) | exact stay2 (by assumption) (by assumption) | exact stay3 (by assumption) (by assumption) (by assumption))) (by omega) ?_; intro t'_m h'_m tk'_m F'_m N'_m; (try dsimp only at N'_m); (try dsimp only); (try k_sweep))) | (((first | (fail_if_success (fail_if_success (with_reducible show wpAny _ _ (call (Value.ref 299) _) _ _ _))) | (fail_if_success (fail_if_success (with_reducible show wpAny _ _ (call (Value.ref 306) _) _ _ _))) | (fail_if_success (fail_if_success (with_reducible show wpAny _ _ (call (Value.ref 313) _) _ _ _))) | (fail_if_success (fail_if_success (with_reducible show wpAny _ _ (call (Value.ref 320) _) _ _ _))) | (fail_if_success (fail_if_success (with_reducible show wpAny _ _ (call (Value.ref 327) _) _ _ _)))); k_dflt (refine' open2 (n1 := Str.ofString "self") (n2 := Str.ofString "ins") ?k1 ?k2 ?k3 ?k4 ?k5 ?kA ?kF ?kK ?k6 ?k7 ?k8 ?k9 ?kB ?_ ?c2 ?c3 ?c4 ?c5; walk_at "my opened")))))
      all_goals
        refine zz _ _ _ _ _ _ _ _ _ _ _ _ _ (News.get (by assumption) (by k_mem)) (News.get (by assumption) (by k_mem)) (News.get (by assumption) (by k_mem)) (by (first | assumption | exact (show Obj.IsDictOf (intKind PP _) _ (tr []) from (by assumption : Obj.IsDictOf (intKind PP _) _ [])))) (by (first | assumption | exact (show Obj.IsDictOf (intKind PP _) _ (tr []) from (by assumption : Obj.IsDictOf (intKind PP _) _ [])))) (by assumption) (by assumption) (by (first | assumption | exact Dist.newY (by assumption) (by assumption) | exact Dist.newX (by assumption) (by assumption))) (by (first | assumption | exact DistS.newY (by assumption) (by assumption) | exact DistS.newX (by assumption) (by assumption))) (keeps7 at0 hg (by assumption) (by assumption) (by k_mem) (by k_mem) (by k_mem) (by k_mem)) (by (first | exact .inl rfl | exact .inr (freshOf (by assumption) (newNoneN (by assumption) (by k_mem)) (notIn7L (by assumption))))) (by (first | exact .inl rfl | exact .inr (freshOf (by assumption) (newNoneN (by assumption) (by k_mem)) (notIn7L (by assumption))))) (by rw [ei]; (first | rfl | (simp only [ckStep, ckLeave, ckCall]; first | rfl | (rw [if_pos (by omega)]; done) | (rw [if_neg (by omega)]; done))))
    · refine c2 (by assumption) fun b k ei ha hk => ?_
      (repeat' (first | walk_at "my step" | (((fail_if_success (fail_if_success (with_reducible show wpAny _ _ (call (Value.ref 257) _) _ _ _))); refine' complain_use (by assumption) (by assumption) (by assumption) (by assumption) rfl rfl rfl rfl (Nat.le_of_ble_eq_true rfl) (Nat.le_of_ble_eq_true rfl) (by k_mem) (by assumption) ?hU ?_; (case hU => (intro _; k_upd)); intro t'_m h'_m tk'_m F'_m N'_m; (try dsimp only at N'_m); (try dsimp only); (try k_sweep))) | (((fail_if_success (fail_if_success (with_reducible show wpAny _ _ (call (Value.ref 264) _) _ _ _))); refine' read_use (by assumption) (by assumption) (by assumption) (by assumption) rfl rfl rfl rfl (Nat.le_of_ble_eq_true rfl) (Nat.le_of_ble_eq_true rfl) (by k_mem) (by intro _; k_upd) (by k_mem) (by k_mem) (by assumption) (by assumption) (by assumption) (by assumption) (by assumption) (by assumption) (by (first | exact stay1 (by assumption) | exact stay2 (by assumption) (by assumption) | exact stay3 (by assumption) (by assumption) (by assumption))) (by assumption) (by assumption) ?_; intro t'_m h'_m tk'_m F'_m N'_m; (try dsimp only at N'_m); (try dsimp only); (try k_sweep))) | (((fail_if_success (fail_if_success (with_reducible show wpAny _ _ (call (Value.ref 271) _) _ _ _))); refine' write_use (by assumption) (by assumption) (by assumption) (by assumption) rfl rfl rfl rfl (Nat.le_of_ble_eq_true rfl) (Nat.le_of_ble_eq_true rfl) (by k_mem) (by intro _; k_upd) (by k_mem) (by k_mem) (by intro _ _; k_upd) (by intro _ _ _; k_upd) (by assumption) (by assumption) (by assumption) ?hl1 ?hl2 (by assumption) (by assumption) (by assumption) (by (first | exact stay1 (by assumption) | exact stay2 (by assumption) (by assumption) | exact stay3 (by assumption) (by assumption) (by assumption))) (by assumption) (by assumption) ?_; (case hl1 => first | omega | (have := @wrx_len; exact Nat.le_trans wrx_len (by omega))); (case hl2 => first | omega | exact Nat.le_trans wry_len (by omega)); intro t'_m h'_m tk'_m oX'_m oY'_m F'_m N'_m hX'_m hY'_m; (try dsimp only at N'_m); (try dsimp only); (try k_sweep))) | (((fail_if_success (fail_if_success (with_reducible show wpAny _ _ (call (Value.ref 278) _) _ _ _))); refine' args_use (by assumption) (by assumption) (by assumption) (by assumption) rfl rfl rfl rfl (Nat.le_of_ble_eq_true rfl) (Nat.le_of_ble_eq_true rfl) (by k_mem) (by intro _; k_upd) (by k_mem) (by k_mem) (by k_mem) (by k_mem) (by assumption) (by assumption) (by assumption) (by assumption) (by assumption) (by (first | exact stay1 (by assumption) | exact stay2 (by assumption) (by assumption) | exact stay3 (by assumption) (by assumption) (by assumption))) (by omega) ?_; intro t'_m h'_m tk'_m F'_m N'_m; (try dsimp only at N'_m); (try dsimp only); (try k_sweep))) | (((first | (fail_if_success (fail_if_success (with_reducible show wpAny _ _ (call (Value.ref 299) _) _ _ _))) | (fail_if_success (fail_if_success (with_reducible show wpAny _ _ (call (Value.ref 306) _) _ _ _))) | (fail_if_success (fail_if_success (with_reducible show wpAny _ _ (call (Value.ref 313) _) _ _ _))) | (fail_if_success (fail_if_success (with_reducible show wpAny _ _ (call (Value.ref 320) _) _ _ _))) | (fail_if_success (fail_if_success (with_reducible show wpAny _ _ (call (Value.ref 327) _) _ _ _)))); k_dflt (refine' open2 (n1 := Str.ofString "self") (n2 := Str.ofString "ins") ?k1 ?k2 ?k3 ?k4 ?k5 ?kA ?kF ?kK ?k6 ?k7 ?k8 ?k9 ?kB ?_ ?c2 ?c3 ?c4 ?c5; walk_at "my opened")))))
      all_goals
        refine zz _ _ _ _ _ _ _ _ _ _ _ _ _ (News.get (by assumption) (by k_mem)) (News.get (by assumption) (by k_mem)) (News.get (by assumption) (by k_mem)) (by (first | assumption | exact (show Obj.IsDictOf (intKind PP _) _ (tr []) from (by assumption : Obj.IsDictOf (intKind PP _) _ [])))) (by (first | assumption | exact (show Obj.IsDictOf (intKind PP _) _ (tr []) from (by assumption : Obj.IsDictOf (intKind PP _) _ [])))) (by assumption) (by assumption) (by (first | assumption | exact Dist.newY (by assumption) (by assumption) | exact Dist.newX (by assumption) (by assumption))) (by (first | assumption | exact DistS.newY (by assumption) (by assumption) | exact DistS.newX (by assumption) (by assumption))) (keeps7 at0 hg (by assumption) (by assumption) (by k_mem) (by k_mem) (by k_mem) (by k_mem)) (by (first | exact .inl rfl | exact .inr (freshOf (by assumption) (newNoneN (by assumption) (by k_mem)) (notIn7L (by assumption))))) (by (first | exact .inl rfl | exact .inr (freshOf (by assumption) (newNoneN (by assumption) (by k_mem)) (notIn7L (by assumption))))) (by rw [ei]; (first | rfl | (simp only [ckStep, ckLeave, ckCall]; first | rfl | (rw [if_pos (by omega)]; done) | (rw [if_neg (by omega)]; done))))
    · have ei := c3 (by assumption) (by assumption)
      refine zz _ _ _ _ _ _ _ _ _ _ _ _ _ (News.get (by assumption) (by k_mem)) (News.get (by assumption) (by k_mem)) (News.get (by assumption) (by k_mem)) (by (first | assumption | exact (show Obj.IsDictOf (intKind PP _) _ (tr []) from (by assumption : Obj.IsDictOf (intKind PP _) _ [])))) (by (first | assumption | exact (show Obj.IsDictOf (intKind PP _) _ (tr []) from (by assumption : Obj.IsDictOf (intKind PP _) _ [])))) (by assumption) (by assumption) (by (first | assumption | exact Dist.newY (by assumption) (by assumption) | exact Dist.newX (by assumption) (by assumption))) (by (first | assumption | exact DistS.newY (by assumption) (by assumption) | exact DistS.newX (by assumption) (by assumption))) (keeps7 at0 hg (by assumption) (by assumption) (by k_mem) (by k_mem) (by k_mem) (by k_mem)) (by (first | exact .inl rfl | exact .inr (freshOf (by assumption) (newNoneN (by assumption) (by k_mem)) (notIn7L (by assumption))))) (by (first | exact .inl rfl | exact .inr (freshOf (by assumption) (newNoneN (by assumption) (by k_mem)) (notIn7L (by assumption))))) (by rw [ei]; (first | rfl | (simp only [ckStep, ckLeave, ckCall]; first | rfl | (rw [if_pos (by omega)]; done) | (rw [if_neg (by omega)]; done))))
  · have u10 : ¬ ((word == Str.ofString "get_level") = true) := by rw [(by assumption : (word == Str.ofString "get_level") = false)]; exact Bool.false_ne_true
    have uc : isCtl i = true := by
      have q : (word == Str.ofString "get_level") = false := by assumption
      have q2 : Txt.startswith word (Str.ofString "get_") = false := by assumption
      have q3 : Txt.startswith word (Str.ofString "put_") = false := by assumption
      rw [← hw, w_lev] at q
      rw [← hw, w_get, q, Bool.or_false] at q2
      rw [← hw, w_put] at q3
      exact w_ctl i q2 q3 q
    (((first | (fail_if_success (fail_if_success (with_reducible show wpAny _ _ (call (Value.ref 299) _) _ _ _))) | (fail_if_success (fail_if_success (with_reducible show wpAny _ _ (call (Value.ref 306) _) _ _ _))) | (fail_if_success (fail_if_success (with_reducible show wpAny _ _ (call (Value.ref 313) _) _ _ _))) | (fail_if_success (fail_if_success (with_reducible show wpAny _ _ (call (Value.ref 320) _) _ _ _))) | (fail_if_success (fail_if_success (with_reducible show wpAny _ _ (call (Value.ref 327) _) _ _ _)))); k_dflt (refine' open2 (n1 := Str.ofString "self") (n2 := Str.ofString "ins") ?k1 ?k2 ?k3 ?k4 ?k5 ?kA ?kF ?kK ?k6 ?k7 ?k8 ?k9 ?kB ?_ ?c2 ?c3 ?c4 ?c5; walk_at "my opened")))
    repeat' (first | (first | walk_at "my step" | (((fail_if_success (fail_if_success (with_reducible show wpAny _ _ (call (Value.ref 257) _) _ _ _))); refine' complain_use (by assumption) (by assumption) (by assumption) (by assumption) rfl rfl rfl rfl (Nat.le_of_ble_eq_true rfl) (Nat.le_of_ble_eq_true rfl) (by k_mem) (by assumption) ?hU ?_; (case hU => (intro _; k_upd)); intro t'_m h'_m tk'_m F'_m N'_m; (try dsimp only at N'_m); (try dsimp only); (try k_sweep)))) | ((fail_if_success (fail_if_success (with_reducible show wpAny _ _ (subscriptTail _ _ (Value.ref _) (Value.int 0 _)) _ _ _))); refine item_tupleT (j := 0) (x := .str word tw) (tupAt2 (by assumption) (by assumption) htup) (by decide) (by decide) (by simp [seqIndex?]) rfl ?_; (try dsimp only)))
    · refine alloc_data (by rw [hw]; assumption) hrg hi fun n tw' t9 ei er' i1 i2 => ?_
      replace htup := tup_of er'
      (repeat' (first | walk_at "my step" | (((fail_if_success (fail_if_success (with_reducible show wpAny _ _ (call (Value.ref 257) _) _ _ _))); refine' complain_use (by assumption) (by assumption) (by assumption) (by assumption) rfl rfl rfl rfl (Nat.le_of_ble_eq_true rfl) (Nat.le_of_ble_eq_true rfl) (by k_mem) (by assumption) ?hU ?_; (case hU => (intro _; k_upd)); intro t'_m h'_m tk'_m F'_m N'_m; (try dsimp only at N'_m); (try dsimp only); (try k_sweep))) | (((fail_if_success (fail_if_success (with_reducible show wpAny _ _ (call (Value.ref 264) _) _ _ _))); refine' read_use (by assumption) (by assumption) (by assumption) (by assumption) rfl rfl rfl rfl (Nat.le_of_ble_eq_true rfl) (Nat.le_of_ble_eq_true rfl) (by k_mem) (by intro _; k_upd) (by k_mem) (by k_mem) (by assumption) (by assumption) (by assumption) (by assumption) (by assumption) (by assumption) (by (first | exact stay1 (by assumption) | exact stay2 (by assumption) (by assumption) | exact stay3 (by assumption) (by assumption) (by assumption))) (by assumption) (by assumption) ?_; intro t'_m h'_m tk'_m F'_m N'_m; (try dsimp only at N'_m); (try dsimp only); (try k_sweep))) | (((fail_if_success (fail_if_success (with_reducible show wpAny _ _ (call (Value.ref 271) _) _ _ _))); refine' write_use (by assumption) (by assumption) (by assumption) (by assumption) rfl rfl rfl rfl (Nat.le_of_ble_eq_true rfl) (Nat.le_of_ble_eq_true rfl) (by k_mem) (by intro _; k_upd) (by k_mem) (by k_mem) (by intro _ _; k_upd) (by intro _ _ _; k_upd) (by assumption) (by assumption) (by assumption) ?hl1 ?hl2 (by assumption) (by assumption) (by assumption) (by (first | exact stay1 (by assumption) | exact stay2 (by assumption) (by assumption) | exact stay3 (by assumption) (by assumption) (by assumption))) (by assumption) (by assumption) ?_; (case hl1 => first | omega | (have := @wrx_len; exact Nat.le_trans wrx_len (by omega))); (case hl2 => first | omega | exact Nat.le_trans wry_len (by omega)); intro t'_m h'_m tk'_m oX'_m oY'_m F'_m N'_m hX'_m hY'_m; (try dsimp only at N'_m); (try dsimp only); (try k_sweep))) | (((fail_if_success (fail_if_success (with_reducible show wpAny _ _ (call (Value.ref 278) _) _ _ _))); refine' args_use (by assumption) (by assumption) (by assumption) (by assumption) rfl rfl rfl rfl (Nat.le_of_ble_eq_true rfl) (Nat.le_of_ble_eq_true rfl) (by k_mem) (by intro _; k_upd) (by k_mem) (by k_mem) (by k_mem) (by k_mem) (by assumption) (by assumption) (by assumption) (by assumption) (by assumption) (by (first | exact stay1 (by assumption) | exact stay2 (by assumption) (by assumption) | exact stay3 (by assumption) (by assumption) (by assumption))) (by omega) ?_; intro t'_m h'_m tk'_m F'_m N'_m; (try dsimp only at N'_m); (try dsimp only); (try k_sweep))) | (((first | (fail_if_success (fail_if_success (with_reducible show wpAny _ _ (call (Value.ref 299) _) _ _ _))) | (fail_if_success (fail_if_success (with_reducible show wpAny _ _ (call (Value.ref 306) _) _ _ _))) | (fail_if_success (fail_if_success (with_reducible show wpAny _ _ (call (Value.ref 313) _) _ _ _))) | (fail_if_success (fail_if_success (with_reducible show wpAny _ _ (call (Value.ref 320) _) _ _ _))) | (fail_if_success (fail_if_success (with_reducible show wpAny _ _ (call (Value.ref 327) _) _ _ _)))); k_dflt (refine' open2 (n1 := Str.ofString "self") (n2 := Str.ofString "ins") ?k1 ?k2 ?k3 ?k4 ?k5 ?kA ?kF ?kK ?k6 ?k7 ?k8 ?k9 ?kB ?_ ?c2 ?c3 ?c4 ?c5; walk_at "my opened")))))
      all_goals
        refine zz _ _ _ _ _ _ _ _ _ _ _ _ _ (News.get (by assumption) (by k_mem)) (News.get (by assumption) (by k_mem)) (News.get (by assumption) (by k_mem)) (by (first | assumption | exact (show Obj.IsDictOf (intKind PP _) _ (tr []) from (by assumption : Obj.IsDictOf (intKind PP _) _ [])))) (by (first | assumption | exact (show Obj.IsDictOf (intKind PP _) _ (tr []) from (by assumption : Obj.IsDictOf (intKind PP _) _ [])))) (by assumption) (by assumption) (by (first | assumption | exact Dist.newY (by assumption) (by assumption) | exact Dist.newX (by assumption) (by assumption))) (by (first | assumption | exact DistS.newY (by assumption) (by assumption) | exact DistS.newX (by assumption) (by assumption))) (keeps7 at0 hg (by assumption) (by assumption) (by k_mem) (by k_mem) (by k_mem) (by k_mem)) (by (first | exact .inl rfl | exact .inr (freshOf (by assumption) (newNoneN (by assumption) (by k_mem)) (notIn7L (by assumption))))) (by (first | exact .inl rfl | exact .inr (freshOf (by assumption) (newNoneN (by assumption) (by k_mem)) (notIn7L (by assumption))))) (by rw [ei]; (first | rfl | (simp only [ckStep, ckLeave, ckCall]; first | rfl | (rw [if_pos (by omega)]; done) | (rw [if_neg (by omega)]; done))))
    · refine alloc_data (by rw [hw]; assumption) hrg hi fun n tw' t9 ei er' i1 i2 => ?_
      replace htup := tup_of er'
      (repeat' (first | walk_at "my step" | (((fail_if_success (fail_if_success (with_reducible show wpAny _ _ (call (Value.ref 257) _) _ _ _))); refine' complain_use (by assumption) (by assumption) (by assumption) (by assumption) rfl rfl rfl rfl (Nat.le_of_ble_eq_true rfl) (Nat.le_of_ble_eq_true rfl) (by k_mem) (by assumption) ?hU ?_; (case hU => (intro _; k_upd)); intro t'_m h'_m tk'_m F'_m N'_m; (try dsimp only at N'_m); (try dsimp only); (try k_sweep))) | (((fail_if_success (fail_if_success (with_reducible show wpAny _ _ (call (Value.ref 264) _) _ _ _))); refine' read_use (by assumption) (by assumption) (by assumption) (by assumption) rfl rfl rfl rfl (Nat.le_of_ble_eq_true rfl) (Nat.le_of_ble_eq_true rfl) (by k_mem) (by intro _; k_upd) (by k_mem) (by k_mem) (by assumption) (by assumption) (by assumption) (by assumption) (by assumption) (by assumption) (by (first | exact stay1 (by assumption) | exact stay2 (by assumption) (by assumption) | exact stay3 (by assumption) (by assumption) (by assumption))) (by assumption) (by assumption) ?_; intro t'_m h'_m tk'_m F'_m N'_m; (try dsimp only at N'_m); (try dsimp only); (try k_sweep))) | (((fail_if_success (fail_if_success (with_reducible show wpAny _ _ (call (Value.ref 271) _) _ _ _))); refine' write_use (by assumption) (by assumption) (by assumption) (by assumption) rfl rfl rfl rfl (Nat.le_of_ble_eq_true rfl) (Nat.le_of_ble_eq_true rfl) (by k_mem) (by intro _; k_upd) (by k_mem) (by k_mem) (by intro _ _; k_upd) (by intro _ _ _; k_upd) (by assumption) (by assumption) (by assumption) ?hl1 ?hl2 (by assumption) (by assumption) (by assumption) (by (first | exact stay1 (by assumption) | exact stay2 (by assumption) (by assumption) | exact stay3 (by assumption) (by assumption) (by assumption))) (by assumption) (by assumption) ?_; (case hl1 => first | omega | (have := @wrx_len; exact Nat.le_trans wrx_len (by omega))); (case hl2 => first | omega | exact Nat.le_trans wry_len (by omega)); intro t'_m h'_m tk'_m oX'_m oY'_m F'_m N'_m hX'_m hY'_m; (try dsimp only at N'_m); (try dsimp only); (try k_sweep))) | (((fail_if_success (fail_if_success (with_reducible show wpAny _ _ (call (Value.ref 278) _) _ _ _))); refine' args_use (by assumption) (by assumption) (by assumption) (by assumption) rfl rfl rfl rfl (Nat.le_of_ble_eq_true rfl) (Nat.le_of_ble_eq_true rfl) (by k_mem) (by intro _; k_upd) (by k_mem) (by k_mem) (by k_mem) (by k_mem) (by assumption) (by assumption) (by assumption) (by assumption) (by assumption) (by (first | exact stay1 (by assumption) | exact stay2 (by assumption) (by assumption) | exact stay3 (by assumption) (by assumption) (by assumption))) (by omega) ?_; intro t'_m h'_m tk'_m F'_m N'_m; (try dsimp only at N'_m); (try dsimp only); (try k_sweep))) | (((first | (fail_if_success (fail_if_success (with_reducible show wpAny _ _ (call (Value.ref 299) _) _ _ _))) | (fail_if_success (fail_if_success (with_reducible show wpAny _ _ (call (Value.ref 306) _) _ _ _))) | (fail_if_success (fail_if_success (with_reducible show wpAny _ _ (call (Value.ref 313) _) _ _ _))) | (fail_if_success (fail_if_success (with_reducible show wpAny _ _ (call (Value.ref 320) _) _ _ _))) | (fail_if_success (fail_if_success (with_reducible show wpAny _ _ (call (Value.ref 327) _) _ _ _)))); k_dflt (refine' open2 (n1 := Str.ofString "self") (n2 := Str.ofString "ins") ?k1 ?k2 ?k3 ?k4 ?k5 ?kA ?kF ?kK ?k6 ?k7 ?k8 ?k9 ?kB ?_ ?c2 ?c3 ?c4 ?c5; walk_at "my opened")))))
      all_goals
        refine zz _ _ _ _ _ _ _ _ _ _ _ _ _ (News.get (by assumption) (by k_mem)) (News.get (by assumption) (by k_mem)) (News.get (by assumption) (by k_mem)) (by (first | assumption | exact (show Obj.IsDictOf (intKind PP _) _ (tr []) from (by assumption : Obj.IsDictOf (intKind PP _) _ [])))) (by (first | assumption | exact (show Obj.IsDictOf (intKind PP _) _ (tr []) from (by assumption : Obj.IsDictOf (intKind PP _) _ [])))) (by assumption) (by assumption) (by (first | assumption | exact Dist.newY (by assumption) (by assumption) | exact Dist.newX (by assumption) (by assumption))) (by (first | assumption | exact DistS.newY (by assumption) (by assumption) | exact DistS.newX (by assumption) (by assumption))) (keeps7 at0 hg (by assumption) (by assumption) (by k_mem) (by k_mem) (by k_mem) (by k_mem)) (by (first | exact .inl rfl | exact .inr (freshOf (by assumption) (newNoneN (by assumption) (by k_mem)) (notIn7L (by assumption))))) (by (first | exact .inl rfl | exact .inr (freshOf (by assumption) (newNoneN (by assumption) (by k_mem)) (notIn7L (by assumption))))) (by rw [ei]; (first | rfl | (simp only [ckStep, ckLeave, ckCall]; first | rfl | (rw [if_pos (by omega)]; done) | (rw [if_neg (by omega)]; done))))
    · have ei := wi_dea (i := i) (by rw [hw]; assumption)
      refine zz _ _ _ _ _ _ _ _ _ _ _ _ _ (News.get (by assumption) (by k_mem)) (News.get (by assumption) (by k_mem)) (News.get (by assumption) (by k_mem)) (by (first | assumption | exact (show Obj.IsDictOf (intKind PP _) _ (tr []) from (by assumption : Obj.IsDictOf (intKind PP _) _ [])))) (by (first | assumption | exact (show Obj.IsDictOf (intKind PP _) _ (tr []) from (by assumption : Obj.IsDictOf (intKind PP _) _ [])))) (by assumption) (by assumption) (by (first | assumption | exact Dist.newY (by assumption) (by assumption) | exact Dist.newX (by assumption) (by assumption))) (by (first | assumption | exact DistS.newY (by assumption) (by assumption) | exact DistS.newX (by assumption) (by assumption))) (keeps7 at0 hg (by assumption) (by assumption) (by k_mem) (by k_mem) (by k_mem) (by k_mem)) (by (first | exact .inl rfl | exact .inr (freshOf (by assumption) (newNoneN (by assumption) (by k_mem)) (notIn7L (by assumption))))) (by (first | exact .inl rfl | exact .inr (freshOf (by assumption) (newNoneN (by assumption) (by k_mem)) (notIn7L (by assumption))))) (by rw [ei]; (first | rfl | (simp only [ckStep, ckLeave, ckCall]; first | rfl | (rw [if_pos (by omega)]; done) | (rw [if_neg (by omega)]; done))))
    · have ei := wi_dea (i := i) (by rw [hw]; assumption)
      refine zz _ _ _ _ _ _ _ _ _ _ _ _ _ (News.get (by assumption) (by k_mem)) (News.get (by assumption) (by k_mem)) (News.get (by assumption) (by k_mem)) (by (first | assumption | exact (show Obj.IsDictOf (intKind PP _) _ (tr []) from (by assumption : Obj.IsDictOf (intKind PP _) _ [])))) (by (first | assumption | exact (show Obj.IsDictOf (intKind PP _) _ (tr []) from (by assumption : Obj.IsDictOf (intKind PP _) _ [])))) (by assumption) (by assumption) (by (first | assumption | exact Dist.newY (by assumption) (by assumption) | exact Dist.newX (by assumption) (by assumption))) (by (first | assumption | exact DistS.newY (by assumption) (by assumption) | exact DistS.newX (by assumption) (by assumption))) (keeps7 at0 hg (by assumption) (by assumption) (by k_mem) (by k_mem) (by k_mem) (by k_mem)) (by (first | exact .inl rfl | exact .inr (freshOf (by assumption) (newNoneN (by assumption) (by k_mem)) (notIn7L (by assumption))))) (by (first | exact .inl rfl | exact .inr (freshOf (by assumption) (newNoneN (by assumption) (by k_mem)) (notIn7L (by assumption))))) (by rw [ei]; (first | rfl | (simp only [ckStep, ckLeave, ckCall]; first | rfl | (rw [if_pos (by omega)]; done) | (rw [if_neg (by omega)]; done))))
    · refine call_data (by rw [hw]; assumption) hrg hi fun i0 n tw' t9 t10 ei er' i1 i2 i3 i4 => ?_
      replace htup := tup_of er'
      repeat' (first | ((fail_if_success (with_reducible show wpAny _ _ (execs [Stmt.If _ _ _ _, Stmt.Assign _ _ _, Stmt.For _ _ _ _ _] _) _ _ _)); first | walk_at "my step" | (((fail_if_success (fail_if_success (with_reducible show wpAny _ _ (call (Value.ref 257) _) _ _ _))); refine' complain_use (by assumption) (by assumption) (by assumption) (by assumption) rfl rfl rfl rfl (Nat.le_of_ble_eq_true rfl) (Nat.le_of_ble_eq_true rfl) (by k_mem) (by assumption) ?hU ?_; (case hU => (intro _; k_upd)); intro t'_m h'_m tk'_m F'_m N'_m; (try dsimp only at N'_m); (try dsimp only); (try k_sweep))) | (((fail_if_success (fail_if_success (with_reducible show wpAny _ _ (call (Value.ref 278) _) _ _ _))); refine' args_use (by assumption) (by assumption) (by assumption) (by assumption) rfl rfl rfl rfl (Nat.le_of_ble_eq_true rfl) (Nat.le_of_ble_eq_true rfl) (by k_mem) (by intro _; k_upd) (by k_mem) (by k_mem) (by k_mem) (by k_mem) (by assumption) (by assumption) (by assumption) (by assumption) (by assumption) (by (first | exact stay1 (by assumption) | exact stay2 (by assumption) (by assumption) | exact stay3 (by assumption) (by assumption) (by assumption))) (by omega) ?_; intro t'_m h'_m tk'_m F'_m N'_m; (try dsimp only at N'_m); (try dsimp only); (try k_sweep))) | (((first | (fail_if_success (fail_if_success (with_reducible show wpAny _ _ (call (Value.ref 299) _) _ _ _))) | (fail_if_success (fail_if_success (with_reducible show wpAny _ _ (call (Value.ref 306) _) _ _ _))) | (fail_if_success (fail_if_success (with_reducible show wpAny _ _ (call (Value.ref 313) _) _ _ _))) | (fail_if_success (fail_if_success (with_reducible show wpAny _ _ (call (Value.ref 320) _) _ _ _))) | (fail_if_success (fail_if_success (with_reducible show wpAny _ _ (call (Value.ref 327) _) _ _ _)))); k_dflt (refine' open2 (n1 := Str.ofString "self") (n2 := Str.ofString "ins") ?k1 ?k2 ?k3 ?k4 ?k5 ?kA ?kF ?kK ?k6 ?k7 ?k8 ?k9 ?kB ?_ ?c2 ?c3 ?c4 ?c5; walk_at "my opened")))))
      refine call_join (x := x) (n := n) (by assumption) (by assumption) (by k_mem) (by intro _; k_upd) ?_ ?_
      · intro J hJ
        (repeat' (first | walk_at "my step" | (((fail_if_success (fail_if_success (with_reducible show wpAny _ _ (call (Value.ref 257) _) _ _ _))); refine' complain_use (by assumption) (by assumption) (by assumption) (by assumption) rfl rfl rfl rfl (Nat.le_of_ble_eq_true rfl) (Nat.le_of_ble_eq_true rfl) (by k_mem) (by assumption) ?hU ?_; (case hU => (intro _; k_upd)); intro t'_m h'_m tk'_m F'_m N'_m; (try dsimp only at N'_m); (try dsimp only); (try k_sweep))) | (((fail_if_success (fail_if_success (with_reducible show wpAny _ _ (call (Value.ref 264) _) _ _ _))); refine' read_use (by assumption) (by assumption) (by assumption) (by assumption) rfl rfl rfl rfl (Nat.le_of_ble_eq_true rfl) (Nat.le_of_ble_eq_true rfl) (by k_mem) (by intro _; k_upd) (by k_mem) (by k_mem) (by assumption) (by assumption) (by assumption) (by assumption) (by assumption) (by assumption) (by (first | exact stay1 (by assumption) | exact stay2 (by assumption) (by assumption) | exact stay3 (by assumption) (by assumption) (by assumption))) (by assumption) (by assumption) ?_; intro t'_m h'_m tk'_m F'_m N'_m; (try dsimp only at N'_m); (try dsimp only); (try k_sweep))) | (((fail_if_success (fail_if_success (with_reducible show wpAny _ _ (call (Value.ref 271) _) _ _ _))); refine' write_use (by assumption) (by assumption) (by assumption) (by assumption) rfl rfl rfl rfl (Nat.le_of_ble_eq_true rfl) (Nat.le_of_ble_eq_true rfl) (by k_mem) (by intro _; k_upd) (by k_mem) (by k_mem) (by intro _ _; k_upd) (by intro _ _ _; k_upd) (by assumption) (by assumption) (by assumption) ?hl1 ?hl2 (by assumption) (by assumption) (by assumption) (by (first | exact stay1 (by assumption) | exact stay2 (by assumption) (by assumption) | exact stay3 (by assumption) (by assumption) (by assumption))) (by assumption) (by assumption) ?_; (case hl1 => first | omega | (have := @wrx_len; exact Nat.le_trans wrx_len (by omega))); (case hl2 => first | omega | exact Nat.le_trans wry_len (by omega)); intro t'_m h'_m tk'_m oX'_m oY'_m F'_m N'_m hX'_m hY'_m; (try dsimp only at N'_m); (try dsimp only); (try k_sweep))) | (((fail_if_success (fail_if_success (with_reducible show wpAny _ _ (call (Value.ref 278) _) _ _ _))); refine' args_use (by assumption) (by assumption) (by assumption) (by assumption) rfl rfl rfl rfl (Nat.le_of_ble_eq_true rfl) (Nat.le_of_ble_eq_true rfl) (by k_mem) (by intro _; k_upd) (by k_mem) (by k_mem) (by k_mem) (by k_mem) (by assumption) (by assumption) (by assumption) (by assumption) (by assumption) (by (first | exact stay1 (by assumption) | exact stay2 (by assumption) (by assumption) | exact stay3 (by assumption) (by assumption) (by assumption))) (by omega) ?_; intro t'_m h'_m tk'_m F'_m N'_m; (try dsimp only at N'_m); (try dsimp only); (try k_sweep))) | (((first | (fail_if_success (fail_if_success (with_reducible show wpAny _ _ (call (Value.ref 299) _) _ _ _))) | (fail_if_success (fail_if_success (with_reducible show wpAny _ _ (call (Value.ref 306) _) _ _ _))) | (fail_if_success (fail_if_success (with_reducible show wpAny _ _ (call (Value.ref 313) _) _ _ _))) | (fail_if_success (fail_if_success (with_reducible show wpAny _ _ (call (Value.ref 320) _) _ _ _))) | (fail_if_success (fail_if_success (with_reducible show wpAny _ _ (call (Value.ref 327) _) _ _ _)))); k_dflt (refine' open2 (n1 := Str.ofString "self") (n2 := Str.ofString "ins") ?k1 ?k2 ?k3 ?k4 ?k5 ?kA ?kF ?kK ?k6 ?k7 ?k8 ?k9 ?kB ?_ ?c2 ?c3 ?c4 ?c5; walk_at "my opened")))))
        all_goals (refine hJ _ _ _ _ (by assumption) (by assumption) ?_; (simp only [ckCallF]; first | (rw [if_pos (by omega)]; done) | (rw [if_neg (by omega), if_pos (by omega)]; done) | (rw [if_neg (by omega), if_neg (by omega)]; done)))
      intro t' h' tk' F' N'
      try dsimp only at N'
      try dsimp only
      try k_sweep
      generalize hfc : ckCallF size (ckArg xs i0 ft) n = fc at N'
      repeat' (first | ((fail_if_success (with_reducible show wpAny _ _ (call (Value.builtin "sorted") _) _ _ _)); first | walk_at "my step" | (((first | (fail_if_success (fail_if_success (with_reducible show wpAny _ _ (call (Value.ref 299) _) _ _ _))) | (fail_if_success (fail_if_success (with_reducible show wpAny _ _ (call (Value.ref 306) _) _ _ _))) | (fail_if_success (fail_if_success (with_reducible show wpAny _ _ (call (Value.ref 313) _) _ _ _))) | (fail_if_success (fail_if_success (with_reducible show wpAny _ _ (call (Value.ref 320) _) _ _ _))) | (fail_if_success (fail_if_success (with_reducible show wpAny _ _ (call (Value.ref 327) _) _ _ _)))); k_dflt (refine' open2 (n1 := Str.ofString "self") (n2 := Str.ofString "ins") ?k1 ?k2 ?k3 ?k4 ?k5 ?kA ?kF ?kK ?k6 ?k7 ?k8 ?k9 ?kB ?_ ?c2 ?c3 ?c4 ?c5; walk_at "my opened")))))
      refine sorted_ys rfl (by assumption) (by k_in) (by assumption) (by k_mem) hY lY hys fun B h' tk vs nB F' N' l1 hI => ?_
      rename_i dN hN1 oN loN hsN fsN hiN fiN lN hN2 lFN NN
      clear NN lFN hsN fsN fiN
      have y1 : @Ne Nat dN Y := Ne.symm (Nat.ne_of_lt lN.2.2.2.1)
      have y2 : @Ne Nat B Y := Ne.symm (Nat.ne_of_lt (l1 (Y, oY) (by k_mem)))
      try dsimp only
      refine iter_listUnr (vs := vs) rfl F' N' (.head _) rfl rfl ?_
      intro I lI
      have y3 : @Ne Nat I Y := Ne.symm (Nat.ne_of_lt (lI (Y, oY) (by k_mem)))
      have lI' := allNe_of (d := I) (fun p hp => Nat.ne_of_lt (lI p hp))
      refine listInv (fun rs m' news' => SrtI w B dN x dx S Y X dS lf r lt dn df V T size e fc t1 t' vs fv nB nF oN oX ys n rs m' news') ?_ ?_ vs _ _ ⟨none, ys, oY, srt ys, ?_, rfl, hY, hI, DelI.start hys⟩
      · rintro v rr m' news' ⟨sv, cur, oY', ns, rfl, rfl, hY', hI', hD'⟩ it hp tkp hit FP NP
        cases hI' with
        | cons k1 tk1 hI2 =>
        have hl : (valueAt (tr cur) k1).isSome = true := by rw [valueAt_tr]; exact decide_eq_true hD'.has
        have hz : cur.length ≤ 100 := Nat.le_trans hD'.len (by omega)
        try dsimp only
        repeat' (first | ((fail_if_success (with_reducible show UnrEnd _ _ _ _ _ _ _)); (fail_if_success (with_reducible show UnrPost _ _ _ _ _ _ _ _ _)); walk_at "my step"))
        · have hdd := (by assumption : Obj.IsDictOf (intKind PP w) _ (without (tr cur) k1))
          rw [without_tr] at hdd
          exact UnrEnd.intro (by assumption) (by assumption) [(B, listOf vs.toArray nB), (dN, oN), (x, instObj 337 dx), (dx, ckO w T S dN Y size e fc t1 t'), (X, oX), (Y, _), (S, instObj 155 dS), (dS, syO w V lt dn lf df), (lf, listOf fv.toArray nF)] (fun _ hp => hp) (by exact allNe_mem lI') ⟨.head _, some (.int k1 tk1), _, _, _, by funext y; by_cases h1 : y = Str.ofString "slot" <;> simp [h1], rfl, hdd, hI2, hD'.del (by omega)⟩
        · exact UnrEnd.intro (by assumption) (by assumption) [(B, listOf vs.toArray nB), (dN, oN), (x, instObj 337 dx), (dx, ckO w T S dN Y size e fc t1 t'), (X, oX), (Y, oY'), (S, instObj 155 dS), (dS, syO w V lt dn lf df), (lf, listOf fv.toArray nF)] (fun _ hp => hp) (by exact allNe_mem lI') ⟨.head _, some (.int k1 tk1), _, _, _, by funext y; by_cases h1 : y = Str.ofString "slot" <;> simp [h1], rfl, hY', hI2, hD'.keep (by omega)⟩
      · rintro m' news' ⟨sv, cur, oY', ns, rfl, rfl, hY', hI', hD'⟩ hp tkp FP NP
        cases hI' with
        | nil =>
        rw [hD'.done] at hY'
        try dsimp only
        (repeat' (first | walk_at "my step" | (((fail_if_success (fail_if_success (with_reducible show wpAny _ _ (call (Value.ref 257) _) _ _ _))); refine' complain_use (by assumption) (by assumption) (by assumption) (by assumption) rfl rfl rfl rfl (Nat.le_of_ble_eq_true rfl) (Nat.le_of_ble_eq_true rfl) (by k_mem) (by assumption) ?hU ?_; (case hU => (intro _; k_upd)); intro t'_m h'_m tk'_m F'_m N'_m; (try dsimp only at N'_m); (try dsimp only); (try k_sweep))) | (((fail_if_success (fail_if_success (with_reducible show wpAny _ _ (call (Value.ref 264) _) _ _ _))); refine' read_use (by assumption) (by assumption) (by assumption) (by assumption) rfl rfl rfl rfl (Nat.le_of_ble_eq_true rfl) (Nat.le_of_ble_eq_true rfl) (by k_mem) (by intro _; k_upd) (by k_mem) (by k_mem) (by assumption) (by assumption) (by assumption) (by assumption) (by assumption) (by assumption) (by (first | exact stay1 (by assumption) | exact stay2 (by assumption) (by assumption) | exact stay3 (by assumption) (by assumption) (by assumption))) (by assumption) (by assumption) ?_; intro t'_m h'_m tk'_m F'_m N'_m; (try dsimp only at N'_m); (try dsimp only); (try k_sweep))) | (((fail_if_success (fail_if_success (with_reducible show wpAny _ _ (call (Value.ref 271) _) _ _ _))); refine' write_use (by assumption) (by assumption) (by assumption) (by assumption) rfl rfl rfl rfl (Nat.le_of_ble_eq_true rfl) (Nat.le_of_ble_eq_true rfl) (by k_mem) (by intro _; k_upd) (by k_mem) (by k_mem) (by intro _ _; k_upd) (by intro _ _ _; k_upd) (by assumption) (by assumption) (by assumption) ?hl1 ?hl2 (by assumption) (by assumption) (by assumption) (by (first | exact stay1 (by assumption) | exact stay2 (by assumption) (by assumption) | exact stay3 (by assumption) (by assumption) (by assumption))) (by assumption) (by assumption) ?_; (case hl1 => first | omega | (have := @wrx_len; exact Nat.le_trans wrx_len (by omega))); (case hl2 => first | omega | exact Nat.le_trans wry_len (by omega)); intro t'_m h'_m tk'_m oX'_m oY'_m F'_m N'_m hX'_m hY'_m; (try dsimp only at N'_m); (try dsimp only); (try k_sweep))) | (((fail_if_success (fail_if_success (with_reducible show wpAny _ _ (call (Value.ref 278) _) _ _ _))); refine' args_use (by assumption) (by assumption) (by assumption) (by assumption) rfl rfl rfl rfl (Nat.le_of_ble_eq_true rfl) (Nat.le_of_ble_eq_true rfl) (by k_mem) (by intro _; k_upd) (by k_mem) (by k_mem) (by k_mem) (by k_mem) (by assumption) (by assumption) (by assumption) (by assumption) (by assumption) (by (first | exact stay1 (by assumption) | exact stay2 (by assumption) (by assumption) | exact stay3 (by assumption) (by assumption) (by assumption))) (by omega) ?_; intro t'_m h'_m tk'_m F'_m N'_m; (try dsimp only at N'_m); (try dsimp only); (try k_sweep))) | (((first | (fail_if_success (fail_if_success (with_reducible show wpAny _ _ (call (Value.ref 299) _) _ _ _))) | (fail_if_success (fail_if_success (with_reducible show wpAny _ _ (call (Value.ref 306) _) _ _ _))) | (fail_if_success (fail_if_success (with_reducible show wpAny _ _ (call (Value.ref 313) _) _ _ _))) | (fail_if_success (fail_if_success (with_reducible show wpAny _ _ (call (Value.ref 320) _) _ _ _))) | (fail_if_success (fail_if_success (with_reducible show wpAny _ _ (call (Value.ref 327) _) _ _ _)))); k_dflt (refine' open2 (n1 := Str.ofString "self") (n2 := Str.ofString "ins") ?k1 ?k2 ?k3 ?k4 ?k5 ?kA ?kF ?kK ?k6 ?k7 ?k8 ?k9 ?kB ?_ ?c2 ?c3 ?c4 ?c5; walk_at "my opened")))))
        refine zz _ _ _ _ _ _ _ _ _ _ _ _ _ (News.get (by assumption) (by k_mem)) (News.get (by assumption) (by k_mem)) (News.get (by assumption) (by k_mem)) hiN hY' loN lY (Dist.newX hD lN) (DistS.newX hE lN) (keeps7 at0 hg (by assumption) (by assumption) (by k_mem) (by k_mem) (by k_mem) (by k_mem)) (.inr (freshOf hg (newNoneN (o := oN) (by assumption) (by k_mem)) (notIn7L lN))) (.inl rfl) (by rw [ei]; subst hfc; rfl)
      · funext y
        by_cases h1 : y = Str.ofString "slot"
        · subst h1; exact rfl
        · exact (if_neg h1).symm
    · refine exec_data (by rw [hw]; assumption) hrg hi fun n tw' t9 ei er' i1 i2 => ?_
      replace htup := tup_of er'
      (repeat' (first | walk_at "my step" | (((fail_if_success (fail_if_success (with_reducible show wpAny _ _ (call (Value.ref 257) _) _ _ _))); refine' complain_use (by assumption) (by assumption) (by assumption) (by assumption) rfl rfl rfl rfl (Nat.le_of_ble_eq_true rfl) (Nat.le_of_ble_eq_true rfl) (by k_mem) (by assumption) ?hU ?_; (case hU => (intro _; k_upd)); intro t'_m h'_m tk'_m F'_m N'_m; (try dsimp only at N'_m); (try dsimp only); (try k_sweep))) | (((fail_if_success (fail_if_success (with_reducible show wpAny _ _ (call (Value.ref 264) _) _ _ _))); refine' read_use (by assumption) (by assumption) (by assumption) (by assumption) rfl rfl rfl rfl (Nat.le_of_ble_eq_true rfl) (Nat.le_of_ble_eq_true rfl) (by k_mem) (by intro _; k_upd) (by k_mem) (by k_mem) (by assumption) (by assumption) (by assumption) (by assumption) (by assumption) (by assumption) (by (first | exact stay1 (by assumption) | exact stay2 (by assumption) (by assumption) | exact stay3 (by assumption) (by assumption) (by assumption))) (by assumption) (by assumption) ?_; intro t'_m h'_m tk'_m F'_m N'_m; (try dsimp only at N'_m); (try dsimp only); (try k_sweep))) | (((fail_if_success (fail_if_success (with_reducible show wpAny _ _ (call (Value.ref 271) _) _ _ _))); refine' write_use (by assumption) (by assumption) (by assumption) (by assumption) rfl rfl rfl rfl (Nat.le_of_ble_eq_true rfl) (Nat.le_of_ble_eq_true rfl) (by k_mem) (by intro _; k_upd) (by k_mem) (by k_mem) (by intro _ _; k_upd) (by intro _ _ _; k_upd) (by assumption) (by assumption) (by assumption) ?hl1 ?hl2 (by assumption) (by assumption) (by assumption) (by (first | exact stay1 (by assumption) | exact stay2 (by assumption) (by assumption) | exact stay3 (by assumption) (by assumption) (by assumption))) (by assumption) (by assumption) ?_; (case hl1 => first | omega | (have := @wrx_len; exact Nat.le_trans wrx_len (by omega))); (case hl2 => first | omega | exact Nat.le_trans wry_len (by omega)); intro t'_m h'_m tk'_m oX'_m oY'_m F'_m N'_m hX'_m hY'_m; (try dsimp only at N'_m); (try dsimp only); (try k_sweep))) | (((fail_if_success (fail_if_success (with_reducible show wpAny _ _ (call (Value.ref 278) _) _ _ _))); refine' args_use (by assumption) (by assumption) (by assumption) (by assumption) rfl rfl rfl rfl (Nat.le_of_ble_eq_true rfl) (Nat.le_of_ble_eq_true rfl) (by k_mem) (by intro _; k_upd) (by k_mem) (by k_mem) (by k_mem) (by k_mem) (by assumption) (by assumption) (by assumption) (by assumption) (by assumption) (by (first | exact stay1 (by assumption) | exact stay2 (by assumption) (by assumption) | exact stay3 (by assumption) (by assumption) (by assumption))) (by omega) ?_; intro t'_m h'_m tk'_m F'_m N'_m; (try dsimp only at N'_m); (try dsimp only); (try k_sweep))) | (((first | (fail_if_success (fail_if_success (with_reducible show wpAny _ _ (call (Value.ref 299) _) _ _ _))) | (fail_if_success (fail_if_success (with_reducible show wpAny _ _ (call (Value.ref 306) _) _ _ _))) | (fail_if_success (fail_if_success (with_reducible show wpAny _ _ (call (Value.ref 313) _) _ _ _))) | (fail_if_success (fail_if_success (with_reducible show wpAny _ _ (call (Value.ref 320) _) _ _ _))) | (fail_if_success (fail_if_success (with_reducible show wpAny _ _ (call (Value.ref 327) _) _ _ _)))); k_dflt (refine' open2 (n1 := Str.ofString "self") (n2 := Str.ofString "ins") ?k1 ?k2 ?k3 ?k4 ?k5 ?kA ?kF ?kK ?k6 ?k7 ?k8 ?k9 ?kB ?_ ?c2 ?c3 ?c4 ?c5; walk_at "my opened")))))
      all_goals
        refine zz _ _ _ _ _ _ _ _ _ _ _ _ _ (News.get (by assumption) (by k_mem)) (News.get (by assumption) (by k_mem)) (News.get (by assumption) (by k_mem)) (by (first | assumption | exact (show Obj.IsDictOf (intKind PP _) _ (tr []) from (by assumption : Obj.IsDictOf (intKind PP _) _ [])))) (by (first | assumption | exact (show Obj.IsDictOf (intKind PP _) _ (tr []) from (by assumption : Obj.IsDictOf (intKind PP _) _ [])))) (by assumption) (by assumption) (by (first | assumption | exact Dist.newY (by assumption) (by assumption) | exact Dist.newX (by assumption) (by assumption))) (by (first | assumption | exact DistS.newY (by assumption) (by assumption) | exact DistS.newX (by assumption) (by assumption))) (keeps7 at0 hg (by assumption) (by assumption) (by k_mem) (by k_mem) (by k_mem) (by k_mem)) (by (first | exact .inl rfl | exact .inr (freshOf (by assumption) (newNoneN (by assumption) (by k_mem)) (notIn7L (by assumption))))) (by (first | exact .inl rfl | exact .inr (freshOf (by assumption) (newNoneN (by assumption) (by k_mem)) (notIn7L (by assumption))))) (by rw [ei]; (first | rfl | (simp only [ckStep, ckLeave, ckCall]; first | rfl | (rw [if_pos (by omega)]; done) | (rw [if_neg (by omega)]; done))))
    · refine pro_data (by rw [hw]; assumption) hrg fun tw' ei er' => ?_
      replace htup := tup_of er'
      (repeat' (first | walk_at "my step" | (((fail_if_success (fail_if_success (with_reducible show wpAny _ _ (call (Value.ref 257) _) _ _ _))); refine' complain_use (by assumption) (by assumption) (by assumption) (by assumption) rfl rfl rfl rfl (Nat.le_of_ble_eq_true rfl) (Nat.le_of_ble_eq_true rfl) (by k_mem) (by assumption) ?hU ?_; (case hU => (intro _; k_upd)); intro t'_m h'_m tk'_m F'_m N'_m; (try dsimp only at N'_m); (try dsimp only); (try k_sweep))) | (((fail_if_success (fail_if_success (with_reducible show wpAny _ _ (call (Value.ref 264) _) _ _ _))); refine' read_use (by assumption) (by assumption) (by assumption) (by assumption) rfl rfl rfl rfl (Nat.le_of_ble_eq_true rfl) (Nat.le_of_ble_eq_true rfl) (by k_mem) (by intro _; k_upd) (by k_mem) (by k_mem) (by assumption) (by assumption) (by assumption) (by assumption) (by assumption) (by assumption) (by (first | exact stay1 (by assumption) | exact stay2 (by assumption) (by assumption) | exact stay3 (by assumption) (by assumption) (by assumption))) (by assumption) (by assumption) ?_; intro t'_m h'_m tk'_m F'_m N'_m; (try dsimp only at N'_m); (try dsimp only); (try k_sweep))) | (((fail_if_success (fail_if_success (with_reducible show wpAny _ _ (call (Value.ref 271) _) _ _ _))); refine' write_use (by assumption) (by assumption) (by assumption) (by assumption) rfl rfl rfl rfl (Nat.le_of_ble_eq_true rfl) (Nat.le_of_ble_eq_true rfl) (by k_mem) (by intro _; k_upd) (by k_mem) (by k_mem) (by intro _ _; k_upd) (by intro _ _ _; k_upd) (by assumption) (by assumption) (by assumption) ?hl1 ?hl2 (by assumption) (by assumption) (by assumption) (by (first | exact stay1 (by assumption) | exact stay2 (by assumption) (by assumption) | exact stay3 (by assumption) (by assumption) (by assumption))) (by assumption) (by assumption) ?_; (case hl1 => first | omega | (have := @wrx_len; exact Nat.le_trans wrx_len (by omega))); (case hl2 => first | omega | exact Nat.le_trans wry_len (by omega)); intro t'_m h'_m tk'_m oX'_m oY'_m F'_m N'_m hX'_m hY'_m; (try dsimp only at N'_m); (try dsimp only); (try k_sweep))) | (((fail_if_success (fail_if_success (with_reducible show wpAny _ _ (call (Value.ref 278) _) _ _ _))); refine' args_use (by assumption) (by assumption) (by assumption) (by assumption) rfl rfl rfl rfl (Nat.le_of_ble_eq_true rfl) (Nat.le_of_ble_eq_true rfl) (by k_mem) (by intro _; k_upd) (by k_mem) (by k_mem) (by k_mem) (by k_mem) (by assumption) (by assumption) (by assumption) (by assumption) (by assumption) (by (first | exact stay1 (by assumption) | exact stay2 (by assumption) (by assumption) | exact stay3 (by assumption) (by assumption) (by assumption))) (by omega) ?_; intro t'_m h'_m tk'_m F'_m N'_m; (try dsimp only at N'_m); (try dsimp only); (try k_sweep))) | (((first | (fail_if_success (fail_if_success (with_reducible show wpAny _ _ (call (Value.ref 299) _) _ _ _))) | (fail_if_success (fail_if_success (with_reducible show wpAny _ _ (call (Value.ref 306) _) _ _ _))) | (fail_if_success (fail_if_success (with_reducible show wpAny _ _ (call (Value.ref 313) _) _ _ _))) | (fail_if_success (fail_if_success (with_reducible show wpAny _ _ (call (Value.ref 320) _) _ _ _))) | (fail_if_success (fail_if_success (with_reducible show wpAny _ _ (call (Value.ref 327) _) _ _ _)))); k_dflt (refine' open2 (n1 := Str.ofString "self") (n2 := Str.ofString "ins") ?k1 ?k2 ?k3 ?k4 ?k5 ?kA ?kF ?kK ?k6 ?k7 ?k8 ?k9 ?kB ?_ ?c2 ?c3 ?c4 ?c5; walk_at "my opened")))))
      all_goals
        refine zz _ _ _ _ _ _ _ _ _ _ _ _ _ (News.get (by assumption) (by k_mem)) (News.get (by assumption) (by k_mem)) (News.get (by assumption) (by k_mem)) (by (first | assumption | exact (show Obj.IsDictOf (intKind PP _) _ (tr []) from (by assumption : Obj.IsDictOf (intKind PP _) _ [])))) (by (first | assumption | exact (show Obj.IsDictOf (intKind PP _) _ (tr []) from (by assumption : Obj.IsDictOf (intKind PP _) _ [])))) (by assumption) (by assumption) (by (first | assumption | exact Dist.newY (by assumption) (by assumption) | exact Dist.newX (by assumption) (by assumption))) (by (first | assumption | exact DistS.newY (by assumption) (by assumption) | exact DistS.newX (by assumption) (by assumption))) (keeps7 at0 hg (by assumption) (by assumption) (by k_mem) (by k_mem) (by k_mem) (by k_mem)) (by (first | exact .inl rfl | exact .inr (freshOf (by assumption) (newNoneN (by assumption) (by k_mem)) (notIn7L (by assumption))))) (by (first | exact .inl rfl | exact .inr (freshOf (by assumption) (newNoneN (by assumption) (by k_mem)) (notIn7L (by assumption))))) (by rw [ei]; (first | rfl | (simp only [ckStep, ckLeave, ckCall]; first | rfl | (rw [if_pos (by omega)]; done) | (rw [if_neg (by omega)]; done))))
    · refine blt_data (by rw [hw]; assumption) hrg hi fun n tw' t9 ei er' i1 i2 => ?_
      replace htup := tup_of er'
      (repeat' (first | walk_at "my step" | (((fail_if_success (fail_if_success (with_reducible show wpAny _ _ (call (Value.ref 257) _) _ _ _))); refine' complain_use (by assumption) (by assumption) (by assumption) (by assumption) rfl rfl rfl rfl (Nat.le_of_ble_eq_true rfl) (Nat.le_of_ble_eq_true rfl) (by k_mem) (by assumption) ?hU ?_; (case hU => (intro _; k_upd)); intro t'_m h'_m tk'_m F'_m N'_m; (try dsimp only at N'_m); (try dsimp only); (try k_sweep))) | (((fail_if_success (fail_if_success (with_reducible show wpAny _ _ (call (Value.ref 264) _) _ _ _))); refine' read_use (by assumption) (by assumption) (by assumption) (by assumption) rfl rfl rfl rfl (Nat.le_of_ble_eq_true rfl) (Nat.le_of_ble_eq_true rfl) (by k_mem) (by intro _; k_upd) (by k_mem) (by k_mem) (by assumption) (by assumption) (by assumption) (by assumption) (by assumption) (by assumption) (by (first | exact stay1 (by assumption) | exact stay2 (by assumption) (by assumption) | exact stay3 (by assumption) (by assumption) (by assumption))) (by assumption) (by assumption) ?_; intro t'_m h'_m tk'_m F'_m N'_m; (try dsimp only at N'_m); (try dsimp only); (try k_sweep))) | (((fail_if_success (fail_if_success (with_reducible show wpAny _ _ (call (Value.ref 271) _) _ _ _))); refine' write_use (by assumption) (by assumption) (by assumption) (by assumption) rfl rfl rfl rfl (Nat.le_of_ble_eq_true rfl) (Nat.le_of_ble_eq_true rfl) (by k_mem) (by intro _; k_upd) (by k_mem) (by k_mem) (by intro _ _; k_upd) (by intro _ _ _; k_upd) (by assumption) (by assumption) (by assumption) ?hl1 ?hl2 (by assumption) (by assumption) (by assumption) (by (first | exact stay1 (by assumption) | exact stay2 (by assumption) (by assumption) | exact stay3 (by assumption) (by assumption) (by assumption))) (by assumption) (by assumption) ?_; (case hl1 => first | omega | (have := @wrx_len; exact Nat.le_trans wrx_len (by omega))); (case hl2 => first | omega | exact Nat.le_trans wry_len (by omega)); intro t'_m h'_m tk'_m oX'_m oY'_m F'_m N'_m hX'_m hY'_m; (try dsimp only at N'_m); (try dsimp only); (try k_sweep))) | (((fail_if_success (fail_if_success (with_reducible show wpAny _ _ (call (Value.ref 278) _) _ _ _))); refine' args_use (by assumption) (by assumption) (by assumption) (by assumption) rfl rfl rfl rfl (Nat.le_of_ble_eq_true rfl) (Nat.le_of_ble_eq_true rfl) (by k_mem) (by intro _; k_upd) (by k_mem) (by k_mem) (by k_mem) (by k_mem) (by assumption) (by assumption) (by assumption) (by assumption) (by assumption) (by (first | exact stay1 (by assumption) | exact stay2 (by assumption) (by assumption) | exact stay3 (by assumption) (by assumption) (by assumption))) (by omega) ?_; intro t'_m h'_m tk'_m F'_m N'_m; (try dsimp only at N'_m); (try dsimp only); (try k_sweep))) | (((first | (fail_if_success (fail_if_success (with_reducible show wpAny _ _ (call (Value.ref 299) _) _ _ _))) | (fail_if_success (fail_if_success (with_reducible show wpAny _ _ (call (Value.ref 306) _) _ _ _))) | (fail_if_success (fail_if_success (with_reducible show wpAny _ _ (call (Value.ref 313) _) _ _ _))) | (fail_if_success (fail_if_success (with_reducible show wpAny _ _ (call (Value.ref 320) _) _ _ _))) | (fail_if_success (fail_if_success (with_reducible show wpAny _ _ (call (Value.ref 327) _) _ _ _)))); k_dflt (refine' open2 (n1 := Str.ofString "self") (n2 := Str.ofString "ins") ?k1 ?k2 ?k3 ?k4 ?k5 ?kA ?kF ?kK ?k6 ?k7 ?k8 ?k9 ?kB ?_ ?c2 ?c3 ?c4 ?c5; walk_at "my opened")))))
      all_goals
        refine zz _ _ _ _ _ _ _ _ _ _ _ _ _ (News.get (by assumption) (by k_mem)) (News.get (by assumption) (by k_mem)) (News.get (by assumption) (by k_mem)) (by (first | assumption | exact (show Obj.IsDictOf (intKind PP _) _ (tr []) from (by assumption : Obj.IsDictOf (intKind PP _) _ [])))) (by (first | assumption | exact (show Obj.IsDictOf (intKind PP _) _ (tr []) from (by assumption : Obj.IsDictOf (intKind PP _) _ [])))) (by assumption) (by assumption) (by (first | assumption | exact Dist.newY (by assumption) (by assumption) | exact Dist.newX (by assumption) (by assumption))) (by (first | assumption | exact DistS.newY (by assumption) (by assumption) | exact DistS.newX (by assumption) (by assumption))) (keeps7 at0 hg (by assumption) (by assumption) (by k_mem) (by k_mem) (by k_mem) (by k_mem)) (by (first | exact .inl rfl | exact .inr (freshOf (by assumption) (newNoneN (by assumption) (by k_mem)) (notIn7L (by assumption))))) (by (first | exact .inl rfl | exact .inr (freshOf (by assumption) (newNoneN (by assumption) (by k_mem)) (notIn7L (by assumption))))) (by rw [ei]; (first | rfl | (simp only [ckStep, ckLeave, ckCall]; first | rfl | (rw [if_pos (by omega)]; done) | (rw [if_neg (by omega)]; done))))
    · refine cut_data (by rw [hw]; assumption) hrg hi fun b k tw' a ei er' ha i1 => ?_
      replace htup := tup_of er'
      (repeat' (first | walk_at "my step" | (((fail_if_success (fail_if_success (with_reducible show wpAny _ _ (call (Value.ref 257) _) _ _ _))); refine' complain_use (by assumption) (by assumption) (by assumption) (by assumption) rfl rfl rfl rfl (Nat.le_of_ble_eq_true rfl) (Nat.le_of_ble_eq_true rfl) (by k_mem) (by assumption) ?hU ?_; (case hU => (intro _; k_upd)); intro t'_m h'_m tk'_m F'_m N'_m; (try dsimp only at N'_m); (try dsimp only); (try k_sweep))) | (((fail_if_success (fail_if_success (with_reducible show wpAny _ _ (call (Value.ref 264) _) _ _ _))); refine' read_use (by assumption) (by assumption) (by assumption) (by assumption) rfl rfl rfl rfl (Nat.le_of_ble_eq_true rfl) (Nat.le_of_ble_eq_true rfl) (by k_mem) (by intro _; k_upd) (by k_mem) (by k_mem) (by assumption) (by assumption) (by assumption) (by assumption) (by assumption) (by assumption) (by (first | exact stay1 (by assumption) | exact stay2 (by assumption) (by assumption) | exact stay3 (by assumption) (by assumption) (by assumption))) (by assumption) (by assumption) ?_; intro t'_m h'_m tk'_m F'_m N'_m; (try dsimp only at N'_m); (try dsimp only); (try k_sweep))) | (((fail_if_success (fail_if_success (with_reducible show wpAny _ _ (call (Value.ref 271) _) _ _ _))); refine' write_use (by assumption) (by assumption) (by assumption) (by assumption) rfl rfl rfl rfl (Nat.le_of_ble_eq_true rfl) (Nat.le_of_ble_eq_true rfl) (by k_mem) (by intro _; k_upd) (by k_mem) (by k_mem) (by intro _ _; k_upd) (by intro _ _ _; k_upd) (by assumption) (by assumption) (by assumption) ?hl1 ?hl2 (by assumption) (by assumption) (by assumption) (by (first | exact stay1 (by assumption) | exact stay2 (by assumption) (by assumption) | exact stay3 (by assumption) (by assumption) (by assumption))) (by assumption) (by assumption) ?_; (case hl1 => first | omega | (have := @wrx_len; exact Nat.le_trans wrx_len (by omega))); (case hl2 => first | omega | exact Nat.le_trans wry_len (by omega)); intro t'_m h'_m tk'_m oX'_m oY'_m F'_m N'_m hX'_m hY'_m; (try dsimp only at N'_m); (try dsimp only); (try k_sweep))) | (((fail_if_success (fail_if_success (with_reducible show wpAny _ _ (call (Value.ref 278) _) _ _ _))); refine' args_use (by assumption) (by assumption) (by assumption) (by assumption) rfl rfl rfl rfl (Nat.le_of_ble_eq_true rfl) (Nat.le_of_ble_eq_true rfl) (by k_mem) (by intro _; k_upd) (by k_mem) (by k_mem) (by k_mem) (by k_mem) (by assumption) (by assumption) (by assumption) (by assumption) (by assumption) (by (first | exact stay1 (by assumption) | exact stay2 (by assumption) (by assumption) | exact stay3 (by assumption) (by assumption) (by assumption))) (by omega) ?_; intro t'_m h'_m tk'_m F'_m N'_m; (try dsimp only at N'_m); (try dsimp only); (try k_sweep))) | (((first | (fail_if_success (fail_if_success (with_reducible show wpAny _ _ (call (Value.ref 299) _) _ _ _))) | (fail_if_success (fail_if_success (with_reducible show wpAny _ _ (call (Value.ref 306) _) _ _ _))) | (fail_if_success (fail_if_success (with_reducible show wpAny _ _ (call (Value.ref 313) _) _ _ _))) | (fail_if_success (fail_if_success (with_reducible show wpAny _ _ (call (Value.ref 320) _) _ _ _))) | (fail_if_success (fail_if_success (with_reducible show wpAny _ _ (call (Value.ref 327) _) _ _ _)))); k_dflt (refine' open2 (n1 := Str.ofString "self") (n2 := Str.ofString "ins") ?k1 ?k2 ?k3 ?k4 ?k5 ?kA ?kF ?kK ?k6 ?k7 ?k8 ?k9 ?kB ?_ ?c2 ?c3 ?c4 ?c5; walk_at "my opened")))))
      all_goals
        refine zz _ _ _ _ _ _ _ _ _ _ _ _ _ (News.get (by assumption) (by k_mem)) (News.get (by assumption) (by k_mem)) (News.get (by assumption) (by k_mem)) (by (first | assumption | exact (show Obj.IsDictOf (intKind PP _) _ (tr []) from (by assumption : Obj.IsDictOf (intKind PP _) _ [])))) (by (first | assumption | exact (show Obj.IsDictOf (intKind PP _) _ (tr []) from (by assumption : Obj.IsDictOf (intKind PP _) _ [])))) (by assumption) (by assumption) (by (first | assumption | exact Dist.newY (by assumption) (by assumption) | exact Dist.newX (by assumption) (by assumption))) (by (first | assumption | exact DistS.newY (by assumption) (by assumption) | exact DistS.newX (by assumption) (by assumption))) (keeps7 at0 hg (by assumption) (by assumption) (by k_mem) (by k_mem) (by k_mem) (by k_mem)) (by (first | exact .inl rfl | exact .inr (freshOf (by assumption) (newNoneN (by assumption) (by k_mem)) (notIn7L (by assumption))))) (by (first | exact .inl rfl | exact .inr (freshOf (by assumption) (newNoneN (by assumption) (by k_mem)) (notIn7L (by assumption))))) (by rw [ei]; (first | rfl | (simp only [ckStep, ckLeave, ckCall]; first | rfl | (rw [if_pos (by omega)]; done) | (rw [if_neg (by omega)]; done))))
    · have ei := wi_fail (i := i) (by rw [hw]; assumption)
      refine zz _ _ _ _ _ _ _ _ _ _ _ _ _ (News.get (by assumption) (by k_mem)) (News.get (by assumption) (by k_mem)) (News.get (by assumption) (by k_mem)) (by (first | assumption | exact (show Obj.IsDictOf (intKind PP _) _ (tr []) from (by assumption : Obj.IsDictOf (intKind PP _) _ [])))) (by (first | assumption | exact (show Obj.IsDictOf (intKind PP _) _ (tr []) from (by assumption : Obj.IsDictOf (intKind PP _) _ [])))) (by assumption) (by assumption) (by (first | assumption | exact Dist.newY (by assumption) (by assumption) | exact Dist.newX (by assumption) (by assumption))) (by (first | assumption | exact DistS.newY (by assumption) (by assumption) | exact DistS.newX (by assumption) (by assumption))) (keeps7 at0 hg (by assumption) (by assumption) (by k_mem) (by k_mem) (by k_mem) (by k_mem)) (by (first | exact .inl rfl | exact .inr (freshOf (by assumption) (newNoneN (by assumption) (by k_mem)) (notIn7L (by assumption))))) (by (first | exact .inl rfl | exact .inr (freshOf (by assumption) (newNoneN (by assumption) (by k_mem)) (notIn7L (by assumption))))) (by rw [ei]; (first | rfl | (simp only [ckStep, ckLeave, ckCall]; first | rfl | (rw [if_pos (by omega)]; done) | (rw [if_neg (by omega)]; done))))
    · have q : (word != Str.ofString "neck_cut") = true := by assumption
      have ei := neck_data uc (by rw [hw]; assumption) (by rw [hw]; assumption) (by rw [hw]; assumption) (by rw [hw]; assumption) (by rw [hw]; assumption) (by rw [hw]; assumption) (by rw [hw]; assumption) (by rw [hw]; assumption)
      rw [← hw, ei] at q
      exact absurd q (by show ¬ ((Str.ofString _ != _) = _); decide)
    · have ei := neck_data uc (by rw [hw]; assumption) (by rw [hw]; assumption) (by rw [hw]; assumption) (by rw [hw]; assumption) (by rw [hw]; assumption) (by rw [hw]; assumption) (by rw [hw]; assumption) (by rw [hw]; assumption)
      refine zz _ _ _ _ _ _ _ _ _ _ _ _ _ (News.get (by assumption) (by k_mem)) (News.get (by assumption) (by k_mem)) (News.get (by assumption) (by k_mem)) (by (first | assumption | exact (show Obj.IsDictOf (intKind PP _) _ (tr []) from (by assumption : Obj.IsDictOf (intKind PP _) _ [])))) (by (first | assumption | exact (show Obj.IsDictOf (intKind PP _) _ (tr []) from (by assumption : Obj.IsDictOf (intKind PP _) _ [])))) (by assumption) (by assumption) (by (first | assumption | exact Dist.newY (by assumption) (by assumption) | exact Dist.newX (by assumption) (by assumption))) (by (first | assumption | exact DistS.newY (by assumption) (by assumption) | exact DistS.newX (by assumption) (by assumption))) (keeps7 at0 hg (by assumption) (by assumption) (by k_mem) (by k_mem) (by k_mem) (by k_mem)) (by (first | exact .inl rfl | exact .inr (freshOf (by assumption) (newNoneN (by assumption) (by k_mem)) (notIn7L (by assumption))))) (by (first | exact .inl rfl | exact .inr (freshOf (by assumption) (newNoneN (by assumption) (by k_mem)) (notIn7L (by assumption))))) (by rw [ei]; (first | rfl | (simp only [ckStep, ckLeave, ckCall]; first | rfl | (rw [if_pos (by omega)]; done) | (rw [if_neg (by omega)]; done))))
end
section
variable {w : World} {A A₀ : Around} {base g : Heap} {outer : List Env} {env : Env} {s : Shared} {p : Program} {loose : List Str} {mean : ExcName → Option Value} {mg mb : Str → Option Value}
  {R : Result → Shared → Prop} {Q E : Value → Shared → Prop} {L : Addr} {m : Str → Option Value} {news : List (Addr × Obj)}
theorem step_use {H : Heap} {x dx S dS lt dn lf df X Y r : Addr} {T : CkT} {V : SyT} {c : CkS} {t1 t5 : Tok} {oX oY : Obj} {fv : List Value} {nF : Nat} {i : Ins} {rest : List (Addr × Obj)}
    (B : Below A₀ base outer g) (F : Fr g L s.heap m) (N : News g L s.heap ([(x, instObj 337 dx), (dx, ckO w T S X Y c.size c.ended c.fault t1 t5), (X, oX), (Y, oY), (S, instObj 155 dS), (dS, syO w V lt dn lf df), (lf, listOf fv.toArray nF)] ++ rest)) (C : Wd w base p loose mean mg mb)
    (hh : A.handled = none) (hA : A.frames = some (env :: outer)) (hf : env.frame = some L) (hke : env.scope.kind = .function)
    (hd : A.depth ≤ 560) (hu : A.units ≤ 1600) (hD : Dist x dx X Y) (hE : DistS dx X Y S dS lf) (hX : oX.IsDictOf (intKind PP w) (tr c.xs)) (hY : oY.IsDictOf (intKind PP w) (tr c.ys)) (hlx : c.xs.length ≤ 90) (hly : c.ys.length ≤ 90) (hys : YsOk c.ys) (lX : (X == sysModules) = false) (lY : (Y == sysModules) = false)
    (hF : Fun3 H fv) (hr : IsIns fsN H r i) (hS : ∀ b o, H.get? b = some o → s.heap.get? b = some o) (hi : InsOk i) (hsize : -1 ≤ c.size ∧ c.size ≤ 3) (hrest : ∀ q ∈ rest, q.1 ∉ [dx, X, Y])
    (z : ∀ t1' t5' h' tk' X' Y' oX' oY', Fr g L h' m → News g L h' ([(x, instObj 337 dx), (dx, ckO w T S X' Y' (ckStep c i).size (ckStep c i).ended (ckStep c i).fault t1' t5'), (X', oX'), (Y', oY'), (S, instObj 155 dS), (dS, syO w V lt dn lf df), (lf, listOf fv.toArray nF)] ++ rest) →
      oX'.IsDictOf (intKind PP w) (tr (ckStep c i).xs) → oY'.IsDictOf (intKind PP w) (tr (ckStep c i).ys) → Dist x dx X' Y' → DistS dx X' Y' S dS lf → (X' == sysModules) = false → (Y' == sysModules) = false →
      (∀ q ∈ rest, q.1 ∉ [dx, X', Y']) → Q .none { s with heap := h', toks := tk' }) :
    wpAny (MM w) A (call (.ref 334) [.ref x, .ref r]) Q E s := by
  have N1 : News g L s.heap [(x, instObj 337 dx), (dx, ckO w T S X Y c.size c.ended c.fault t1 t5), (X, oX), (Y, oY), (S, instObj 155 dS), (dS, syO w V lt dn lf df), (lf, listOf fv.toArray nF)] := newsSub N fun p hp => List.mem_append_left _ hp
  have N2 : News g L s.heap [(dx, ckO w T S X Y c.size c.ended c.fault t1 t5), (X, oX), (Y, oY)] := newsSub N1 fun p hp => by
    revert p
    refine allC ?_ (allC ?_ (allC ?_ (allE)))
    · exact .tail _ (.head _)
    · exact .tail _ (.tail _ (.head _))
    · exact .tail _ (.tail _ (.tail _ (.head _)))
  have nt : NT s.heap [x, dx, X, Y, S, dS, lf] := nt_of (mods := [(x, instObj 337 dx), (dx, ckO w T S X Y c.size c.ended c.fault t1 t5), (X, oX), (Y, oY), (S, instObj 155 dS), (dS, syO w V lt dn lf df), (lf, listOf fv.toArray nF)]) (fun p hp => (N1 p hp).1) (by
    refine allC ?_ (allC ?_ (allC ?_ (allC ?_ (allC ?_ (allC ?_ (allC ?_ (allE)))))))
    · exact inst_cls
    · exact dictO_cls
    · exact dict_cls hX
    · exact dict_cls hY
    · exact inst_cls
    · exact dictO_cls
    · show Value.type "list" ≠ Value.type "tuple"; decide)
  have K0 := up_keep hS
  refine wpAny_call (step_all i (Rdy.nest B F N1 hh hA hf hke) C hd hu hD hE hX hY hlx hly hys lX lY (hF.keep K0 nt_nil) (hr.keep K0 nt_nil) hi hsize nt fun t1' t5' h' tk' X' Y' oX' oY' hK h1 h2 h3 h4 h5 h6 h7 h8 h9 h10 h11 => ?_)
  obtain ⟨⟨f1, f2, f3, f4, f5, f6, f7, f8, f9⟩, _⟩ := id hE
  have kp : ∀ q ∈ ([(x, instObj 337 dx), (dx, ckO w T S X Y c.size c.ended c.fault t1 t5), (X, oX), (Y, oY), (S, instObj 155 dS), (dS, syO w V lt dn lf df), (lf, listOf fv.toArray nF)] ++ rest), q.1 ∉ [dx, X, Y] → h'.get? q.1 = some q.2 ∧ q.1 ≠ L ∧ g.get? q.1 = none := fun q hq hn => ⟨hK _ _ (N q hq).1 hn, (N q hq).2⟩
  refine z t1' t5' h' tk' X' Y' oX' oY' (frAfter F N2 hK) ?_ h4 h5 h8 h9 h10 h11 ?_
  · refine allA ?_ fun q hq => ?_
    · refine allC ?_ (allC ?_ (allC ?_ (allC ?_ (allC ?_ (allC ?_ (allC ?_ (allE)))))))
      · exact kp _ (List.mem_append_left _ (.head _)) (nmC hD.1 (nmC hD.2.1 (nmC hD.2.2.1 nmE)))
      · exact ⟨h1, (N (dx, _) (List.mem_append_left _ (.tail _ (.head _)))).2⟩
      · rcases h6 with rfl | h6
        · exact ⟨h2, (N (X', _) (List.mem_append_left _ (.tail _ (.tail _ (.head _))))).2⟩
        · exact ⟨h2, newNe F h6, newNone F h6⟩
      · rcases h7 with rfl | h7
        · exact ⟨h3, (N (Y', _) (List.mem_append_left _ (.tail _ (.tail _ (.tail _ (.head _)))))).2⟩
        · exact ⟨h3, newNe F h7, newNone F h7⟩
      · exact kp _ (List.mem_append_left _ (.tail _ (.tail _ (.tail _ (.tail _ (.head _)))))) (nmC f1 (nmC f4 (nmC f7 nmE)))
      · exact kp _ (List.mem_append_left _ (.tail _ (.tail _ (.tail _ (.tail _ (.tail _ (.head _))))))) (nmC f2 (nmC f5 (nmC f8 nmE)))
      · exact kp _ (List.mem_append_left _ (.tail _ (.tail _ (.tail _ (.tail _ (.tail _ (.tail _ (.head _)))))))) (nmC f3 (nmC f6 (nmC f9 nmE)))
    · exact kp q (List.mem_append_right _ hq) (hrest q hq)
  · intro q hq hm
    have hold := hrest q hq
    have there := (N q (List.mem_append_right _ hq)).1
    simp only [List.mem_cons, List.not_mem_nil, or_false, not_or] at hold hm
    rcases hm with e | e | e
    · exact hold.1 e
    · rcases h6 with rfl | h6
      · exact hold.2.1 e
      · rw [e, h6] at there; cases there
    · rcases h7 with rfl | h7
      · exact hold.2.2 e
      · rw [e, h7] at there; cases there
end
section
section
variable {prog : Program} {w : World} {K : Type} [DecidableEq K] {knd : KeyKind prog w K} {A : Around} {E : Value → Shared → Prop} {s : Shared}
theorem put_pairs {d : Addr} {kvs : List (K × Value)} {k : K} {key v : Value} {Q : Unit → Shared → Prop} (hkey : knd.is k key = true) (hm : s.heap.DictOf knd d kvs) (hnew : k ∉ kvs.map (·.1)) (hsz : kvs.length ≤ sizeLine)
    (hQ : ∀ h', h'.DictOf knd d (kvs ++ [(k, v)]) → Heap.SameBut d s.heap h' → Q () { s with heap := h' }) : wpAny (model prog w) A (dictPut d (knd.hash k) key v) Q E s := by
  obtain ⟨o, es, ep, ho, hc, hd, hk, hp, hn⟩ := hm
  have hes : es.size ≤ sizeLine := by
    have e1 := hp.length
    have e2 : es.toList.length = es.size := by simp
    omega
  unfold dictPut
  refine wpAny_bind (wpAny_dictFind_of hkey ho hd hk ?_)
  have hidx : (es.findIdx? fun e => knd.is k e.key) = kvs.findIdx? fun kv => decide (kv.1 = k) := by
    rw [← hp.findIdx k]; obtain ⟨l⟩ := es; simp
  have hnone : (es.findIdx? fun e => knd.is k e.key) = none := by
    rw [hidx, List.findIdx?_eq_none_iff]
    intro kv hkv
    exact decide_eq_false fun e => hnew (e ▸ List.mem_map_of_mem hkv)
  rw [hnone]
  refine wpAny_updateDictKeys (hz := hes) ho hd (hQ _ ⟨_, _, ep + 1, Heap.get?_update_self _ ho (Obj.isFreed_of_dict (Obj.data_mapDictKeys hd _)), hc.mapDictKeys _, Obj.data_mapDictKeys hd _, hk.push hkey _, ?_, ?_⟩ (Heap.SameBut.update ..))
  · have := hp.append hkey (knd.hash k) v
    obtain ⟨l⟩ := es
    simpa using this
  · rw [List.map_append, List.nodup_append]
    refine ⟨hn, by simp, ?_⟩
    intro a ha b hb
    simp only [List.map_cons, List.map_nil, List.mem_singleton] at hb
    subst hb
    exact fun e => hnew (e ▸ ha)
theorem merge_pairs {d o : Addr} {kvs more : List (K × Value)} {Q : Unit → Shared → Prop} (hdo : d ≠ o) (hoS : (o == sysModules) = false) (hne : kvs ≠ [])
    (hd : s.heap.DictOf knd d kvs) (ho : s.heap.DictOf knd o more) (hnd : ((kvs ++ more).map (·.1)).Nodup) (hsz : kvs.length + more.length ≤ sizeLine)
    (hQ : ∀ h', h'.DictOf knd d (kvs ++ more) → Heap.SameBut d s.heap h' → Q () { s with heap := h' }) : wpAny (model prog w) A (mergeMapping d (.ref o) false) Q E s := by
  obtain ⟨od, esd, epd, hod, hcd, hdd, hkd, hpd, hnd'⟩ := id hd
  obtain ⟨oo, eso, epo, hoo, hco, hdo', hko, hpo, hno⟩ := id ho
  have hlen : more.length = eso.size := by rw [← hpo.length]; simp
  have hT : s.TypeIs (.ref o) "dict" := ⟨oo, hoo, hco.1⟩
  unfold mergeMapping
  refine wpAny_bind (wpAny_isInstance hT (show isSubtype (.type "dict") (.type "dict") = pure true by rw [isSubtype_type]; kernel_rfl) ?_)
  dsimp only
  rw [if_pos rfl]
  refine wpAny_bind (wpAny_specialOf hT PySem.F.slot_dict_iter.lookup ?_)
  refine wpAny_bind (wpAny_pure ?_)
  rw [show (some (Value.builtin "dict.__iter__") == some (Value.builtin "dict.__iter__")) = true by simp]
  dsimp only
  rw [if_neg (by rw [hoS]; exact Bool.false_ne_true)]
  refine wpAny_bind (wpAny_dictEntries hod hdd ?_)
  have hesd : esd.isEmpty = false := by
    cases h : esd.isEmpty with
    | false => rfl
    | true =>
      have h0 : esd = #[] := Array.isEmpty_iff.mp h
      have := hpd.length
      rw [h0] at this
      exact absurd (List.length_eq_zero_iff.mp (by simpa using this.symm)) hne
  rw [if_neg (by rw [hesd]; exact Bool.false_ne_true)]
  refine wpAny_bind (wpAny_dictEntries hoo hdo' ?_)
  refine wpAny_bind (wpAny_dictEpoch hoo hdo' ?_)
  rw [List.range_eq_range']
  refine wpAny_bind (wpAny_forIn_list _
      (fun rest _ s' => ∃ h' i, s' = { s with heap := h' } ∧ rest = List.range' i (eso.size - i) ∧ i ≤ eso.size ∧ h'.DictOf knd d (kvs ++ more.take i) ∧ h'.get? o = some oo ∧ Heap.SameBut d s.heap h')
      _ ?_ ?_ _ _ ⟨s.heap, 0, rfl, by simp, Nat.zero_le _, by simpa using hd, hoo, Heap.SameBut.refl _ _⟩)
  · rintro x rest b s' ⟨h', i, rfl, hr, hi, hd', hoo', hs'⟩
    have hlt : i < eso.size := by
      rcases Nat.lt_or_ge i eso.size with h | h
      · exact h
      · rw [Nat.sub_eq_zero_of_le h] at hr; simp at hr
    obtain ⟨rfl, hrest⟩ : x = i ∧ rest = List.range' (i + 1) (eso.size - (i + 1)) := by
      have e : eso.size - i = (eso.size - (i + 1)) + 1 := by omega
      rw [e, List.range'_succ] at hr
      injection hr with h1 h2
      exact ⟨h1, h2⟩
    refine wpAny_bind (wpAny_dictEntries hoo' hdo' ?_)
    rw [Array.getElem?_eq_getElem hlt]
    have hxm : x < more.length := by omega
    obtain ⟨k, v, hkv⟩ : ∃ k v, more[x]? = some (k, v) := ⟨(more[x]).1, (more[x]).2, List.getElem?_eq_getElem hxm⟩
    obtain ⟨hkey, hval⟩ := hpo.get? (e := eso[x]) (by simp [hlt]) hkv
    obtain ⟨k', hkey', hhash⟩ := hko eso[x] (Array.getElem_mem hlt)
    obtain rfl : k' = k := knd.inj _ _ _ hkey' hkey
    have htk : more.take (x + 1) = more.take x ++ [(k', v)] := by
      rw [List.take_add_one, hkv]; rfl
    have hnk : k' ∉ (kvs ++ more.take x).map (·.1) := by
      have e : kvs ++ more = (kvs ++ more.take x) ++ (k', v) :: more.drop (x + 1) := by
        rw [List.append_assoc]
        congr 1
        have : more.drop x = (k', v) :: more.drop (x + 1) := by
          rw [List.drop_eq_getElem_cons hxm]
          congr 1
          exact Option.some.inj ((List.getElem?_eq_getElem hxm).symm.trans hkv)
        rw [← this, List.take_append_drop]
      rw [e, List.map_append, List.nodup_append] at hnd
      exact fun q => hnd.2.2 k' q k' (by simp) rfl
    show wpAny _ _ (holding [eso[x].key, eso[x].val] (dictPut d eso[x].hash eso[x].key eso[x].val) >>= _) _ _ _
    rw [hhash, hval]
    have hmx : (kvs ++ more.take x).length ≤ sizeLine := by
      have e2 : (more.take x).length ≤ more.length := by rw [List.length_take]; omega
      rw [List.length_append]; omega
    refine wpAny_bind (wpAny_holding (put_pairs hkey hd' hnk hmx fun h'' hd'' hs'' => ?_))
    have hoo'' : h''.get? o = some oo := (hs''.2 o (Ne.symm hdo)).trans hoo'
    refine wpAny_bind (wpAny_dictEpoch hoo'' hdo' ?_)
    rw [if_neg (by simp)]
    exact wpAny_pure ⟨h'', x + 1, rfl, hrest, hlt, by rw [htk, ← List.append_assoc]; exact hd'', hoo'', hs'.trans hs''⟩
  · rintro b s' ⟨h', i, rfl, hr, hi, hd', hoo', hs'⟩
    have hin : i = eso.size := by
      rcases Nat.lt_or_ge i eso.size with h | h
      · have e : eso.size - i = (eso.size - (i + 1)) + 1 := by omega
        rw [e, List.range'_succ] at hr; exact nomatch hr
      · exact Nat.le_antisymm hi h
    refine wpAny_pure (hQ h' ?_ hs')
    rw [hin, ← hlen, List.take_length] at hd'; exact hd'
/-- a tree that gives a written text -/
def LitAt (prog : Program) (w : World) (A : Around) (E : Value → Shared → Prop) (x : Sem Value) (v : Str) : Prop := ∀ (Q : Value → Shared → Prop) (s : Shared), (∀ t tk, Q (.str v t) { s with toks := tk }) → wpAny (model prog w) A x Q E s
inductive LitsAt (prog : Program) (w : World) (A : Around) (E : Value → Shared → Prop) : List (Sem Value × Sem Value) → List (Str × Str) → Prop
  | nil : LitsAt prog w A E [] []
  | cons {p : Sem Value × Sem Value} {k v : Str} {ps : List (Sem Value × Sem Value)} {l : List (Str × Str)} : LitAt prog w A E p.1 k → LitAt prog w A E p.2 v → LitsAt prog w A E ps l → LitsAt prog w A E (p :: ps) ((k, v) :: l)
inductive KV : List (Str × Str) → List (Str × Value) → Prop
  | nil : KV [] []
  | cons {k v : Str} {t : Tok} {l : List (Str × Str)} {kvs : List (Str × Value)} : KV l kvs → KV ((k, v) :: l) ((k, .str v t) :: kvs)
theorem KV.append {l l' : List (Str × Str)} {kvs kvs' : List (Str × Value)} (x : KV l kvs) (y : KV l' kvs') : KV (l ++ l') (kvs ++ kvs') := by
  induction x with
  | nil => exact y
  | cons _ ih => exact .cons ih
theorem KV.keys {l : List (Str × Str)} {kvs : List (Str × Value)} (x : KV l kvs) : kvs.map (·.1) = l.map (·.1) := by
  induction x with
  | nil => rfl
  | cons _ ih => simp [ih]
theorem KV.length {l : List (Str × Str)} {kvs : List (Str × Value)} (x : KV l kvs) : kvs.length = l.length := by
  have := congrArg List.length x.keys
  simpa using this
theorem LitsAt.length {A : Around} {E : Value → Shared → Prop} {ps : List (Sem Value × Sem Value)} {l : List (Str × Str)} (x : LitsAt prog w A E ps l) : ps.length = l.length := by
  induction x with
  | nil => rfl
  | cons _ _ _ ih => simp [ih]
theorem KV.at {l : List (Str × Str)} {kvs : List (Str × Value)} (x : KV l kvs) {k v : Str} (h : l.lookup k = some v) : ∃ t, valueAt kvs k = some (.str v t) := by
  induction x with
  | nil => cases h
  | @cons k' v' t l kvs _ ih =>
    rw [List.lookup_cons] at h
    by_cases e : k = k'
    · subst e
      simp only [beq_self_eq_true] at h
      cases h
      exact ⟨t, by simp [valueAt]⟩
    · have e' : (k == k') = false := by simpa using e
      rw [e'] at h
      obtain ⟨t', q⟩ := ih h
      exact ⟨t', by simpa [valueAt, Ne.symm e] using q⟩
theorem store_lits {d : Addr} (ps : List (Sem Value × Sem Value)) (l : List (Str × Str)) (hps : LitsAt prog w A E ps l) : ∀ (accL : List (Str × Str)) (acc : List (Str × Value)) (s : Shared) (Q : PUnit → Shared → Prop), s.heap.DictOf (strKind prog w) d acc → KV accL acc → ((accL ++ l).map (·.1)).Nodup → accL.length + l.length ≤ 1000 →
    (∀ h' tk kvs, KV (accL ++ l) kvs → h'.DictOf (strKind prog w) d kvs → Heap.SameBut d s.heap h' → Q PUnit.unit { s with heap := h', toks := tk }) →
    wpAny (model prog w) A (forIn ps PUnit.unit fun (x : Sem Value × Sem Value) (_ : PUnit) => (do let kv ← x.1; let vv ← holding [kv] x.2; holding [kv, vv] (dictSet d kv vv); pure (ForInStep.yield PUnit.unit) : Sem (ForInStep PUnit))) Q E s := by
  induction hps with
  | nil =>
    intro accL acc s Q hm hk _ _ hQ
    rw [List.forIn_nil]
    exact wpAny_pure (by simpa using hQ s.heap s.toks acc (by simpa using hk) hm (Heap.SameBut.refl _ _))
  | @cons p k v ps l h1 h2 h3 ih =>
    intro accL acc s Q hm hk hn hsz hQ
    rw [List.forIn_cons]
    refine wpAny_bind (wpAny_bind (h1 _ _ fun t tk => ?_))
    refine wpAny_bind (wpAny_holding (h2 _ _ fun t' tk' => ?_))
    have hnew : k ∉ acc.map (·.1) := by
      rw [hk.keys]
      rw [List.map_append, List.nodup_append] at hn
      exact fun q => hn.2.2 k q k (by simp) rfl
    have hza : acc.length ≤ sizeLine := by
      have := hk.length
      rw [List.length_cons] at hsz
      rw [sizeLine_eq]; omega
    refine wpAny_bind (wpAny_holding (wpAny_dictSet_pairs (k := k) (hsz := hza) (strKind_is _ _ _ _) hm fun h₁ hm₁ hs₁ => ?_))
    have hst : stored acc k (.str v t') = acc ++ [(k, .str v t')] := by
      unfold stored
      rw [if_neg]
      rw [List.any_eq_true]
      rintro ⟨kv, hkv, he⟩
      exact hnew (List.mem_map.mpr ⟨kv, hkv, of_decide_eq_true he⟩)
    rw [hst] at hm₁
    refine wpAny_pure (ih (accL ++ [(k, v)]) _ _ _ hm₁ (hk.append (.cons .nil)) (by simpa using hn) (by simp at hsz ⊢; omega) fun h' tk'' kvs hkv hd' hs' => ?_)
    exact hQ h' tk'' kvs (by simpa using hkv) hd' (hs₁.trans hs')
theorem sub_long {ps : List (Sem Value × Sem Value)} {l : List (Str × Str)} {Q : Addr → Shared → Prop} (hp : LitsAt prog w A E ps l) (hn : (l.map (·.1)).Nodup) (h15 : 15 < ps.length) (hsz : l.length ≤ 1000)
    (hQ : ∀ h' tk kvs, KV l kvs → h'.DictOf (strKind prog w) s.heap.objs.size kvs → (∀ b o, s.heap.get? b = some o → h'.get? b = some o) → Q s.heap.objs.size { s with heap := h', toks := tk }) : wpAny (model prog w) A (subDict ps) Q E s := by
  unfold subDict
  refine wpAny_bind (wpAny_alloc ?_)
  refine wpAny_bind (wpAny_holding ?_)
  rw [if_neg (by omega)]
  refine wpAny_bind (wpAny_rule ?_)
  refine wpAny_bind (store_lits ps l hp [] [] _ _ (Heap.DictOf.new s.heap) .nil hn (by simpa using hsz) fun h' tk kvs hkv hd' hs' => wpAny_pure (wpAny_pure ?_))
  exact hQ h' tk kvs hkv hd' fun b o e => (hs'.2 b (Nat.ne_of_lt (Heap.lt_size e))).trans (Heap.get?_push_of_some _ e)
theorem eval_lits (ps : List (Sem Value × Sem Value)) (l : List (Str × Str)) (hps : LitsAt prog w A E ps l) : ∀ (Q : List (Value × Value) → Shared → Prop) (s : Shared), (∀ vs kvs tk, Carries (strKind prog w) vs kvs → KV l kvs → Q vs { s with toks := tk }) → wpAny (model prog w) A (evalPairs ps) Q E s := by
  induction hps with
  | nil => intro Q s h; exact evalPairs_nil (h [] [] s.toks trivial .nil)
  | @cons p k v ps l h1 h2 h3 ih =>
    intro Q s h
    refine evalPairs_cons (h1 _ _ fun t tk => h2 _ _ fun t' tk' => ih _ _ fun vs kvs tk'' hc hk => ?_)
    exact h _ ((k, .str v t') :: kvs) _ ⟨strKind_is _ _ _ _, rfl, hc⟩ (.cons hk)
theorem sub_short {ps : List (Sem Value × Sem Value)} {l : List (Str × Str)} {Q : Addr → Shared → Prop} (hp : LitsAt prog w A E ps l) (hn : (l.map (·.1)).Nodup) (h15 : ps.length ≤ 15)
    (hQ : ∀ h' tk kvs, KV l kvs → h'.DictOf (strKind prog w) s.heap.objs.size kvs → (∀ b o, s.heap.get? b = some o → h'.get? b = some o) → Q s.heap.objs.size { s with heap := h', toks := tk }) : wpAny (model prog w) A (subDict ps) Q E s := by
  refine wpAny_subDict (knd := strKind prog w) h15 (eval_lits ps l hp _ _ fun vs kvs tk hc hk => ⟨kvs, hc, Heap.DictOf.new s.heap, fun h' hm hs => ?_⟩)
  rw [merged_nil_of_nodup _ (by rw [hk.keys]; exact hn)] at hm
  exact hQ h' _ kvs hk hm fun b o e => (hs.2 b (Nat.ne_of_lt (Heap.lt_size e))).trans (Heap.get?_push_of_some _ e)
theorem gather {f : (Option (Sem Value) × Sem Value) → (Option Addr × List (Sem Value × Sem Value)) → Sem (ForInStep (Option Addr × List (Sem Value × Sem Value)))} {main : Option Addr} {rest : List (Option (Sem Value) × Sem Value)} {Q : Option Addr × List (Sem Value × Sem Value) → Shared → Prop}
    (hf : ∀ (p : Sem Value × Sem Value) (main : Option Addr) (run : List (Sem Value × Sem Value)), run.length + 1 < 17 → f (some p.1, p.2) (main, run) = pure (.yield (main, run ++ [p]))) :
    ∀ (items run : List (Sem Value × Sem Value)), run.length + items.length < 17 → wpAny (model prog w) A (forIn rest (main, run ++ items) f) Q E s → wpAny (model prog w) A (forIn (items.map (fun p => (some p.1, p.2)) ++ rest) (main, run) f) Q E s
  | [], run, _, h => by simpa using h
  | p :: items, run, hl, h => by
    rw [List.map_cons, List.cons_append, List.forIn_cons, hf p main run (by simp at hl; omega), pure_bind]
    exact gather hf items (run ++ [p]) (by simp at hl ⊢; omega) (by simpa using h)
theorem display3 {PA PB PC : List (Sem Value × Sem Value)} {pa pb : Sem Value × Sem Value} {la lb lc : List (Str × Str)} {Q : Value → Shared → Prop} (ha : LitsAt prog w A E (PA ++ [pa]) la) (hb : LitsAt prog w A E (PB ++ [pb]) lb) (hc : LitsAt prog w A E PC lc)
    (na : PA.length = 16) (nb : PB.length = 16) (nc : PC.length ≤ 15) (nc0 : PC ≠ []) (hn : ((la ++ lb ++ lc).map (·.1)).Nodup) (hbig : ∀ a, s.heap.objs.size ≤ a → (a == sysModules) = false)
    (hQ : ∀ h' tk kvs d, KV (la ++ lb ++ lc) kvs → h'.DictOf (strKind prog w) d kvs → (∀ b o, s.heap.get? b = some o → h'.get? b = some o) → s.heap.objs.size ≤ d → Q (.ref d) { s with heap := h', toks := tk }) :
    wpAny (model prog w) A (dictDisplay ((PA ++ [pa] ++ (PB ++ [pb]) ++ PC).map fun p => (some p.1, p.2))) Q E s := by
  unfold dictDisplay
  dsimp only
  refine wpAny_bind ?_
  rw [show (PA ++ [pa] ++ (PB ++ [pb]) ++ PC).map (fun p => (some p.1, p.2)) = PA.map (fun p => (some p.1, p.2)) ++ ((some pa.1, pa.2) :: (PB.map (fun p => (some p.1, p.2)) ++ ((some pb.1, pb.2) :: (PC.map (fun p => (some p.1, p.2)) ++ [])))) by simp]
  refine gather ?hf PA [] (by simpa using (by omega : PA.length < 17)) ?_
  case hf =>
    intro p main run h
    have hne : ((run ++ [(p.1, p.2)]).length == 17) = false := by simp; omega
    simp only [hne, Bool.false_eq_true, if_false]
  have flush1 : ∀ (p : Sem Value × Sem Value), ([] ++ PA ++ [(p.1, p.2)]).length = 17 := by intro p; simp [na]
  have flush2 : ∀ (p : Sem Value × Sem Value), ([] ++ PB ++ [(p.1, p.2)]).length = 17 := by intro p; simp [nb]
  rw [List.forIn_cons]
  dsimp only
  rw [if_pos (by rw [flush1]; rfl)]
  rw [if_neg (by simp)]
  refine wpAny_bind (wpAny_bind (wpAny_bind (sub_long (l := la) (by simpa using ha) ?n1 (by simp [na]) ?s1 fun h₁ tk₁ kv₁ k₁ d₁ st₁ => wpAny_pure (wpAny_pure ?_))))
  case n1 => rw [List.map_append, List.map_append, List.append_assoc, List.nodup_append] at hn; exact hn.1
  case s1 => have := ha.length; simp [na] at this; omega
  dsimp only
  refine gather ?hf2 PB [] (by simpa using (by omega : PB.length < 17)) ?_
  case hf2 =>
    intro p main run h
    have hne : ((run ++ [(p.1, p.2)]).length == 17) = false := by simp; omega
    simp only [hne, Bool.false_eq_true, if_false]
  rw [List.forIn_cons]
  dsimp only
  rw [if_pos (by rw [flush2]; rfl)]
  rw [if_neg (by simp)]
  have hn' := hn
  rw [List.map_append, List.map_append, List.nodup_append, List.nodup_append] at hn'
  have hla : la ≠ [] := by
    intro e
    have := ha.length
    rw [e] at this
    simp at this
  refine wpAny_bind (wpAny_bind (wpAny_bind (wpAny_holding (sub_long (l := lb) (by simpa using hb) hn'.1.2.1 (by simp [nb]) ?s2 fun h₂ tk₂ kv₂ k₂ d₂ st₂ => ?_))))
  case s2 => have := hb.length; simp [nb] at this; omega
  have hlt1 : s.heap.objs.size < h₁.objs.size := Heap.lt_size (Heap.dictOf_iff.mp d₁).choose_spec.1
  refine wpAny_bind (wpAny_onRaise (wpAny_holding (merge_pairs (Nat.ne_of_lt hlt1) (hbig _ (Nat.le_of_lt hlt1)) ?ne1 (d₁.keep st₂) d₂ ?nd1 ?sz1 fun h₃ d₃ sb₃ => wpAny_pure (wpAny_pure ?_))))
  case ne1 => intro e; rw [e] at k₁; cases k₁; exact hla rfl
  case nd1 => rw [List.map_append, k₁.keys, k₂.keys, List.nodup_append]; exact hn'.1
  case sz1 =>
    have e1 := k₁.length
    have e2 := k₂.length
    have e3 := ha.length
    have e4 := hb.length
    simp only [List.length_append, na, nb, List.length_cons, List.length_nil] at e3 e4
    rw [sizeLine_eq]; omega
  have st₃ : ∀ b o, s.heap.get? b = some o → h₃.get? b = some o := fun b o e => (sb₃.2 b (Nat.ne_of_lt (Heap.lt_size e))).trans (st₂ _ _ (st₁ _ _ e))
  dsimp only
  refine gather ?hf3 PC [] (by simpa using (by omega : PC.length < 17)) ?_
  case hf3 =>
    intro p main run h
    have hne : ((run ++ [(p.1, p.2)]).length == 17) = false := by simp; omega
    simp only [hne, Bool.false_eq_true, if_false]
  rw [List.forIn_nil]
  refine wpAny_pure ?_
  dsimp only
  rw [if_neg (by simp [nc0])]
  refine wpAny_bind (wpAny_bind (wpAny_holding (sub_short (l := lc) (by simpa using hc) hn'.2.1 (by simpa using nc) fun h₄ tk₄ kv₄ k₄ d₄ st₄ => ?_)))
  have hlt3 : s.heap.objs.size < h₃.objs.size := Heap.lt_size (Heap.dictOf_iff.mp d₃).choose_spec.1
  refine wpAny_bind (wpAny_onRaise (wpAny_holding (merge_pairs (Nat.ne_of_lt hlt3) (hbig _ (Nat.le_of_lt hlt3)) ?ne2 (d₃.keep st₄) d₄ ?nd2 ?sz2 fun h₅ d₅ sb₅ => wpAny_pure (wpAny_pure ?_))))
  case ne2 => intro e; rw [List.append_eq_nil_iff] at e; rw [e.1] at k₁; cases k₁; exact hla rfl
  case nd2 => rw [List.map_append, List.map_append, k₁.keys, k₂.keys, k₄.keys, List.nodup_append, List.nodup_append]; exact hn'
  case sz2 =>
    have e1 := k₁.length
    have e2 := k₂.length
    have e5 := k₄.length
    have e3 := ha.length
    have e4 := hb.length
    have e6 := hc.length
    simp only [List.length_append, na, nb, List.length_cons, List.length_nil] at e3 e4
    rw [sizeLine_eq, List.length_append]; omega
  exact hQ h₅ _ _ _ ((k₁.append k₂).append k₄) d₅ (fun b o e => (sb₅.2 b (Nat.ne_of_lt (Heap.lt_size e))).trans (st₄ _ _ (st₃ _ _ e))) (Nat.le_refl _)
theorem LitsAt.split : ∀ (a : List (Sem Value × Sem Value)) {b : List (Sem Value × Sem Value)} {l : List (Str × Str)}, LitsAt prog w A E (a ++ b) l → ∃ la lb, l = la ++ lb ∧ LitsAt prog w A E a la ∧ LitsAt prog w A E b lb
  | [], _, l, h => ⟨[], l, rfl, .nil, h⟩
  | _ :: a, _, _, .cons h1 h2 h3 => by
    obtain ⟨la, lb, rfl, x, y⟩ := LitsAt.split a h3
    exact ⟨_ :: la, lb, rfl, .cons h1 h2 x, y⟩
theorem cut17 {α : Type} {l : List α} (h : 17 ≤ l.length) : ∃ a x r, l = a ++ [x] ++ r ∧ a.length = 16 := by
  have h16 : 16 < l.length := h
  refine ⟨l.take 16, l[16], l.drop 17, ?_, by rw [List.length_take]; omega⟩
  rw [List.append_assoc, List.singleton_append, ← List.drop_eq_getElem_cons h16, List.take_append_drop]
theorem display_long {ps : List (Sem Value × Sem Value)} {l : List (Str × Str)} {Q : Value → Shared → Prop} (hp : LitsAt prog w A E ps l) (n1 : 34 < ps.length) (n2 : ps.length ≤ 49) (hn : (l.map (·.1)).Nodup) (hbig : ∀ a, s.heap.objs.size ≤ a → (a == sysModules) = false)
    (hQ : ∀ h' tk kvs d, KV l kvs → h'.DictOf (strKind prog w) d kvs → (∀ b o, s.heap.get? b = some o → h'.get? b = some o) → s.heap.objs.size ≤ d → Q (.ref d) { s with heap := h', toks := tk }) :
    wpAny (model prog w) A (dictDisplay (ps.map fun p => (some p.1, p.2))) Q E s := by
  obtain ⟨PA, pa, r, rfl, na⟩ := cut17 (l := ps) (by omega)
  simp only [List.length_append, na, List.length_cons, List.length_nil] at n1 n2
  obtain ⟨PB, pb, PC, rfl, nb⟩ := cut17 (l := r) (by omega)
  simp only [List.length_append, nb, List.length_cons, List.length_nil] at n1 n2
  obtain ⟨la, l2, rfl, ha, h2⟩ := LitsAt.split (PA ++ [pa]) hp
  obtain ⟨lb, lc, rfl, hb, hc⟩ := LitsAt.split (PB ++ [pb]) h2
  rw [← List.append_assoc]
  refine display3 ha hb hc na nb (by omega) (by intro e; rw [e] at n1; simp at n1) (by rw [List.append_assoc]; exact hn) hbig ?_
  rw [List.append_assoc]
  exact hQ
inductive LitsE : List (Option Expr) → List Expr → List (Str × Str) → Prop
  | nil : LitsE [] [] []
  | cons {k v : Str} {a b : Nat} {p q : Pos} {ks : List (Option Expr)} {vs : List Expr} {l : List (Str × Str)} : LitsE ks vs l → LitsE (some (.Constant (.str k) a p) :: ks) (.Constant (.str v) b q :: vs) ((k, v) :: l)
theorem lit1 {env : Env} {x : Str} {a : Nat} {pos : Pos} : LitAt prog w A E (eval (.Constant (.str x) a pos) env) x := fun Q s h => wpAny_Constant_str (h _ _)
theorem lit2 {env : Env} {x : Str} {a : Nat} {pos pos' : Pos} : LitAt prog w A E (do let y ← eval (.Constant (.str x) a pos) env; standAt pos'; pure y) x := fun Q s h => wpAny_bind (wpAny_Constant_str (wpAny_bind (wpAny_standAt (wpAny_pure (h _ _)))))
theorem litsAt_of {env : Env} {pos : Pos} {keys : List (Option Expr)} {values : List Expr} {l : List (Str × Str)} (h : LitsE keys values l) : LitsAt prog w A E (pairTrees keys values env pos) l ∧ keys.all (·.isSome) = true ∧ keys.length = values.length ∧ keys.length = l.length := by
  induction h with
  | nil => exact ⟨.nil, rfl, rfl, rfl⟩
  | cons _ ih =>
    obtain ⟨x, y, z, u⟩ := ih
    refine ⟨?_, by simpa using y, congrArg Nat.succ z, congrArg Nat.succ u⟩
    rw [pairTrees]
    try dsimp only
    refine LitsAt.cons ?_ ?_ x
    · try dsimp only
      with_reducible exact lit1
    · try dsimp only
      with_reducible exact lit2
theorem dict_lits {env : Env} {keys : List (Option Expr)} {values : List Expr} {pos : Pos} {l : List (Str × Str)} {Q : Value → Shared → Prop} (hl : LitsE keys values l) (n1 : 34 < l.length) (n2 : l.length ≤ 49) (hn : (l.map (·.1)).Nodup) (hbig : ∀ a, s.heap.objs.size ≤ a → (a == sysModules) = false)
    (hQ : ∀ h' tk kvs d, KV l kvs → h'.DictOf (strKind prog w) d kvs → (∀ b o, s.heap.get? b = some o → h'.get? b = some o) → s.heap.objs.size ≤ d → Q (.ref d) { s with heap := h', toks := tk }) :
    wpAny (model prog w) A (eval (.Dict keys values pos) env) Q E s := by
  obtain ⟨x, y, z, u⟩ := litsAt_of (prog := prog) (w := w) (A := A) (E := E) (env := env) (pos := pos) hl
  rw [arm_eval_Dict, zip_pairTrees keys values env pos y z]
  exact wpAny_bind (wpAny_standAt (display_long x (by rw [x.length]; exact n1) (by rw [x.length]; exact n2) hn hbig hQ))
end
end
section
variable {w : World} {A A₀ : Around} {base g : Heap} {outer : List Env} {env : Env} {s : Shared} {p : Program} {loose : List Str} {mean : ExcName → Option Value} {mg mb : Str → Option Value}
  {R : Result → Shared → Prop} {Q E : Value → Shared → Prop} {L : Addr} {m : Str → Option Value} {news : List (Addr × Obj)}
def shL : List (String × String) := [("get_variable", "RX"), ("get_value", "RX"), ("get_constant", "CX"), ("put_variable", "RX"), ("put_value", "RX"), ("put_constant", "CX"), ("allocate", "N"), ("deallocate", ""), ("call", "FN"), ("execute", "F"), ("proceed", ""), ("builtin", "F"), ("neck_cut", ""), ("get_level", "R"), ("cut_to", "R"), ("fail", "")]
/-- what the table of shapes says of the words in use -/
def ShK (kvs : List (Str × Value)) : Prop := ∀ q ∈ shL, ∃ t, valueAt kvs (Str.ofString q.1) = some (.str (Str.ofString q.2) t)
theorem shapes_spec (D : Rdy A base outer s.heap []) (C : Wd w base p loose mean mg mb) (hd : A.depth ≤ 580) (hu : A.units ≤ 1800)
    (z : ∀ a o kvs h' tk', Keeps [] s.heap h' → h'.get? a = some o → s.heap.get? a = none → (a == sysModules) = false → o.IsDictOf (strKind PP w) kvs → ShK kvs → R (.ok (.ret (.ref a))) { s with heap := h', toks := tk' }) :
    codeAny (MM w) A (.call (.ref 166) ⟨[], []⟩) R s := by
  refine' enter 580 1800 (binds := []) D C.X C.T hd hu ?k6 ?k7 ?k8 ?k9 ?kB ?_ ?c2 ?c3 ?c4 ?c5
  walk_at "my enter"
  intro g L h₁ tk eL hg hgs F N l1 B X' T' env1
  have at0 := D.at_
  clear D
  have hbig : ∀ a, h₁.objs.size ≤ a → (a == sysModules) = false := fun a ha => beq_eq_false_iff_ne.mpr (Nat.ne_of_gt (Nat.lt_of_lt_of_le (Nat.lt_trans (modules_low T'.nolimit) (Nat.lt_of_le_of_lt F.above F.ns.lt)) ha))
  walk_at "my step"
  walk_at "my step"
  with_reducible refine' dict_lits ?hl ?n1 ?n2 ?hn hbig (fun h' tk' kvs d hkv hd' st hle => ?_)
  case hl => repeat' constructor
  case n1 => exact Nat.le_of_ble_eq_true rfl
  case n2 => exact Nat.le_of_ble_eq_true rfl
  case hn => decide +kernel
  refine z d (Classical.choose (Heap.dictOf_iff.mp hd')) kvs h' tk' ?_ ?_ ?_ ?_ ?_ ?_
  · exact fun b o e _ => st b o (F.keep b o (hg b o e (fun q => nomatch q)))
  · exact (Classical.choose_spec (Heap.dictOf_iff.mp hd')).1
  · cases q : s.heap.get? d with
    | none => rfl
    | some o => exact absurd (Heap.lt_size (F.keep _ _ (hg _ _ q (fun q => nomatch q)))) (Nat.not_lt_of_le hle)
  · exact hbig d hle
  · exact (Classical.choose_spec (Heap.dictOf_iff.mp hd')).2
  · intro q hq
    refine hkv.at ?_
    revert q
    decide +kernel
theorem shapes_use (B : Below A₀ base outer g) (F : Fr g L s.heap m) (N : News g L s.heap news) (C : Wd w base p loose mean mg mb)
    (hh : A.handled = none) (hA : A.frames = some (env :: outer)) (hf : env.frame = some L) (hke : env.scope.kind = .function) (hd : A.depth ≤ 580) (hu : A.units ≤ 1800)
    (z : ∀ a o kvs h' tk', Fr g L h' m → News g L h' ((a, o) :: news) → (∀ p ∈ news, p.1 ≠ a) → (a == sysModules) = false → o.IsDictOf (strKind PP w) kvs → ShK kvs → Q (.ref a) { s with heap := h', toks := tk' }) :
    wpAny (MM w) A (call (.ref 166) []) Q E s := by
  have N0 : News g L s.heap [] := newsSub N fun _ q => nomatch q
  refine wpAny_call (shapes_spec (Rdy.nest B F N0 hh hA hf hke) C hd hu fun a o kvs h' tk' hK h1 h2 h3 h4 h5 => ?_)
  exact z a o kvs h' tk' (frAfter F (mods := []) N0 hK) (newsCons (newsAfter0 N hK) h1 (newNe F h2) (newNone F h2)) (fun p hp e => by have := (N p hp).1; rw [e, h2] at this; cases this) h3 h4 h5
end
section
section
variable {w : World} {A A₀ : Around} {base g : Heap} {outer : List Env} {env : Env} {s : Shared} {p : Program} {loose : List Str} {mean : ExcName → Option Value} {mg mb : Str → Option Value}
  {R : Result → Shared → Prop} {Q E : Value → Shared → Prop} {L : Addr} {m : Str → Option Value} {news : List (Addr × Obj)}
theorem stay4 {g g' g'' g3 h : Heap} {L L' L'' L3 : Addr} {m m' m'' m3 : Str → Option Value} (F4 : Fr g3 L3 h m3) (F3 : Fr g'' L'' g3 m'') (F2 : Fr g' L' g'' m') (F1 : Fr g L g' m) : ∀ b o, g.get? b = some o → h.get? b = some o := fun b o e => F4.keep b o (F3.keep b o (F2.keep b o (F1.keep b o e)))
theorem tupAt4 {g g' g'' g3 h : Heap} {L L' L'' L3 a : Addr} {m m' m'' m3 : Str → Option Value} {l : Array Value} (F4 : Fr g3 L3 h m3) (F3 : Fr g'' L'' g3 m'') (F2 : Fr g' L' g'' m') (F1 : Fr g L g' m) (x : IsTup g a l) : IsTup h a l := IsTup.keeps x (stay4 F4 F3 F2 F1)
theorem len_lit {prog : Program} {A : Around} {E : Value → Shared → Prop} {s : Shared} {x : Str} {t : Tok} {k : Int} {Q : Value → Shared → Prop} (hk : (x.length : Int) = k) (hz : k ≤ 100) (h : Q (.int k (s.toks + 1)) { s with toks := s.toks + 1 + 1 }) : wpAny (model prog w) A (call (.builtin "len") [.str x t]) Q E s := by
  subst hk
  exact PyProof.Rows.len_str (by omega) h
theorem item_lit {prog : Program} {A : Around} {E : Value → Shared → Prop} {s : Shared} {value slice : PySem.Expr} {x y : Str} {n : Nat} {i : Int} {t u : Tok} {Q : Value → Shared → Prop} (hy : Txt.item x i = y) (hk : x.length = n) (h0 : -(n : Int) ≤ i) (h1 : i < (n : Int)) (hn : n ≤ 100) (h : Q (.str y s.toks) { s with toks := s.toks + 1 })
    (hs : subscripted slice false (.str x t) (.int i u) = operate [.str x t, .int i u] (getItem (.str x t) (.int i u)) := by with_unfolding_all rfl)
    (ht : ∀ r, letTemporaryGo value (.str x t) r = pure () := by intro _; with_unfolding_all rfl) : wpAny (model prog w) A (subscriptTail value slice (.str x t) (.int i u)) Q E s := by
  subst hy
  exact KXi.item hk h0 h1 (by omega) (fun _ => h) hs ht
end
local macro_rules | `(tactic| walk_at "call builtin:len") => `(tactic| ((fail_if_success (fail_if_success (with_reducible show wpAny _ _ (call (Value.builtin "len") [Value.str _ _]) _ _ _))); first | refine len_lit (k := 2) (by decide +kernel) (by decide) ?_ | refine len_lit (k := 1) (by decide +kernel) (by decide) ?_ | refine len_lit (k := 0) (by decide +kernel) (by decide) ?_))
local macro_rules | `(tactic| walk_at "compareOp NotIn str ref") => `(tactic| ((fail_if_success (fail_if_success (with_reducible show wpAny _ _ (compareOp CmpOp.NotIn (Value.str _ _) (Value.ref _)) _ _ _))); refine kdg_notin (knd := PySem.strKind _ _) (by assumption) (by k_mem) (by assumption) (by assumption) (strKind_is _ _ _ _) true (by assumption) ?_))
local macro_rules | `(tactic| walk_at "subscriptTail") => `(tactic| ((fail_if_success (fail_if_success (with_reducible show wpAny _ _ (subscriptTail _ _ (Value.ref _) (Value.str _ _)) _ _ _))); refine kda_item (knd := PySem.strKind _ _) (by assumption) (by k_mem) (by assumption) (strKind_is _ _ _ _) (by assumption) ?_))
local macro_rules | `(tactic| walk_at "call builtin:isinstance") => `(tactic| ((fail_if_success (fail_if_success (with_reducible show wpAny _ _ (call _ [Value.ref _, Value.type "tuple"]) _ _ _))); refine IsiPair.isTuple_tuple (by assumption) (by (first | (first | exact stay1 (by assumption) | exact stay2 (by assumption) (by assumption) | exact stay3 (by assumption) (by assumption) (by assumption)) | (exact stay4 (by assumption) (by assumption) (by assumption) (by assumption)) | (first | exact stay1 (by assumption) | exact stay2 (by assumption) (by assumption) | exact stay3 (by assumption) (by assumption) (by assumption)))) ?_))
local macro_rules | `(tactic| walk_at "call builtin:len") => `(tactic| ((fail_if_success (fail_if_success (with_reducible show wpAny _ _ (call (Value.builtin "len") [Value.ref _]) _ _ _))); first | refine kun_lenT (k := 1) (by (first | (first | exact Fr.tup (by assumption) (by assumption) | exact tupAt2 (by assumption) (by assumption) (by assumption) | exact tupAt3 (by assumption) (by assumption) (by assumption) (by assumption)) | (exact tupAt4 (by assumption) (by assumption) (by assumption) (by assumption) (by assumption)) | (first | exact Fr.tup (by assumption) (by assumption) | exact tupAt2 (by assumption) (by assumption) (by assumption) | exact tupAt3 (by assumption) (by assumption) (by assumption) (by assumption)))) rfl (by decide) ?_ | refine kun_lenT (k := 2) (by (first | (first | exact Fr.tup (by assumption) (by assumption) | exact tupAt2 (by assumption) (by assumption) (by assumption) | exact tupAt3 (by assumption) (by assumption) (by assumption) (by assumption)) | (exact tupAt4 (by assumption) (by assumption) (by assumption) (by assumption) (by assumption)) | (first | exact Fr.tup (by assumption) (by assumption) | exact tupAt2 (by assumption) (by assumption) (by assumption) | exact tupAt3 (by assumption) (by assumption) (by assumption) (by assumption)))) rfl (by decide) ?_ | refine kun_lenT (k := 3) (by (first | (first | exact Fr.tup (by assumption) (by assumption) | exact tupAt2 (by assumption) (by assumption) (by assumption) | exact tupAt3 (by assumption) (by assumption) (by assumption) (by assumption)) | (exact tupAt4 (by assumption) (by assumption) (by assumption) (by assumption) (by assumption)) | (first | exact Fr.tup (by assumption) (by assumption) | exact tupAt2 (by assumption) (by assumption) (by assumption) | exact tupAt3 (by assumption) (by assumption) (by assumption) (by assumption)))) rfl (by decide) ?_))
local macro_rules | `(tactic| walk_at "subscriptTail") => `(tactic| ((fail_if_success (fail_if_success (with_reducible show wpAny _ _ (subscriptTail _ _ (Value.str _ _) (Value.int _ _)) _ _ _))); first | refine item_lit (y := Str.ofString "R") (n := 2) (by decide +kernel) (by decide +kernel) (by decide) (by decide) (by decide) ?_ | refine item_lit (y := Str.ofString "X") (n := 2) (by decide +kernel) (by decide +kernel) (by decide) (by decide) (by decide) ?_ | refine item_lit (y := Str.ofString "C") (n := 2) (by decide +kernel) (by decide +kernel) (by decide) (by decide) (by decide) ?_ | refine item_lit (y := Str.ofString "F") (n := 2) (by decide +kernel) (by decide +kernel) (by decide) (by decide) (by decide) ?_ | refine item_lit (y := Str.ofString "N") (n := 2) (by decide +kernel) (by decide +kernel) (by decide) (by decide) (by decide) ?_ | refine item_lit (y := Str.ofString "R") (n := 1) (by decide +kernel) (by decide +kernel) (by decide) (by decide) (by decide) ?_ | refine item_lit (y := Str.ofString "F") (n := 1) (by decide +kernel) (by decide +kernel) (by decide) (by decide) (by decide) ?_ | refine item_lit (y := Str.ofString "N") (n := 1) (by decide +kernel) (by decide +kernel) (by decide) (by decide) (by decide) ?_))
section
variable {w : World} {A A₀ : Around} {base g : Heap} {outer : List Env} {env : Env} {s : Shared} {p : Program} {loose : List Str} {mean : ExcName → Option Value} {mg mb : Str → Option Value}
  {R : Result → Shared → Prop} {Q E : Value → Shared → Prop} {L : Addr} {m : Str → Option Value} {news : List (Addr × Obj)}
theorem opR_spec {a : Addr} {b : Bool} {k : Int} (hr : IsRg s.heap a b k) (hk : 1 ≤ k) {tk : Tok} (D : Rdy A base outer s.heap []) (C : Wd w base p loose mean mg mb) (hd : A.depth ≤ 570) (hu : A.units ≤ 1700)
    (z : ∀ h' tk', Keeps [] s.heap h' → R (.ok (.ret (.bool true))) { s with heap := h', toks := tk' }) : codeAny (MM w) A (.call (.ref 229) ⟨[.ref a, .str (Str.ofString "R") tk, .bool false], []⟩) R s := by
  refine' enter 570 1700 (binds := [(Str.ofString "value", .ref a), (Str.ofString "kind", .str (Str.ofString "R") tk), (Str.ofString "linked", .bool false)]) D C.X C.T hd hu ?k6 ?k7 ?k8 ?k9 ?kB ?_ ?c2 ?c3 ?c4 ?c5
  walk_at "my enter"
  intro g L h₁ tk' eL hg hgs F N l1 B X' T' env1
  have at0 := D.at_
  clear D l1
  obtain ⟨u1, u2, hta⟩ := (hr.keep hg nt_nil).tup
  clear hr
  cases b
  all_goals ((repeat' (first | walk_at "my step" | (first | ((fail_if_success (fail_if_success (with_reducible show wpAny _ _ (call (Value.ref 187) _) _ _ _))); k_dflt (refine' open2 (n1 := Str.ofString "value") (n2 := Str.ofString "names") ?k1 ?k2 ?k3 ?k4 ?k5 ?kA ?kF ?kK ?k6 ?k7 ?k8 ?k9 ?kB ?_ ?c2 ?c3 ?c4 ?c5; walk_at "my opened")) | ((first | (fail_if_success (fail_if_success (with_reducible show wpAny _ _ (call (Value.ref 173) _) _ _ _))) | (fail_if_success (fail_if_success (with_reducible show wpAny _ _ (call (Value.ref 180) _) _ _ _))) | (fail_if_success (fail_if_success (with_reducible show wpAny _ _ (call (Value.ref 194) _) _ _ _))) | (fail_if_success (fail_if_success (with_reducible show wpAny _ _ (call (Value.ref 201) _) _ _ _)))); k_dflt (refine' open1 (n1 := Str.ofString "value") ?k1 ?k2 ?k3 ?k4 ?k5 ?kA ?kF ?kK ?k6 ?k7 ?k8 ?k9 ?kB ?_ ?c2 ?c3 ?c4 ?c5; walk_at "my opened"))))))
  all_goals (try rw [decide_eq_true (by assumption)])
  all_goals exact z _ _ (keepsM at0 hg (by assumption) (by assumption) [] fun _ q => nomatch q)
theorem opX_spec {a : Addr} {k : Int} (hr : IsRg s.heap a true k) (hk : 1 ≤ k) {tk : Tok} (D : Rdy A base outer s.heap []) (C : Wd w base p loose mean mg mb) (hd : A.depth ≤ 570) (hu : A.units ≤ 1700)
    (z : ∀ h' tk', Keeps [] s.heap h' → R (.ok (.ret (.bool true))) { s with heap := h', toks := tk' }) : codeAny (MM w) A (.call (.ref 229) ⟨[.ref a, .str (Str.ofString "X") tk, .bool false], []⟩) R s := by
  refine' enter 570 1700 (binds := [(Str.ofString "value", .ref a), (Str.ofString "kind", .str (Str.ofString "X") tk), (Str.ofString "linked", .bool false)]) D C.X C.T hd hu ?k6 ?k7 ?k8 ?k9 ?kB ?_ ?c2 ?c3 ?c4 ?c5
  walk_at "my enter"
  intro g L h₁ tk' eL hg hgs F N l1 B X' T' env1
  have at0 := D.at_
  clear D l1
  obtain ⟨u1, u2, hta⟩ := (hr.keep hg nt_nil).tup
  clear hr
  (repeat' (first | walk_at "my step" | (first | ((fail_if_success (fail_if_success (with_reducible show wpAny _ _ (call (Value.ref 187) _) _ _ _))); k_dflt (refine' open2 (n1 := Str.ofString "value") (n2 := Str.ofString "names") ?k1 ?k2 ?k3 ?k4 ?k5 ?kA ?kF ?kK ?k6 ?k7 ?k8 ?k9 ?kB ?_ ?c2 ?c3 ?c4 ?c5; walk_at "my opened")) | ((first | (fail_if_success (fail_if_success (with_reducible show wpAny _ _ (call (Value.ref 173) _) _ _ _))) | (fail_if_success (fail_if_success (with_reducible show wpAny _ _ (call (Value.ref 180) _) _ _ _))) | (fail_if_success (fail_if_success (with_reducible show wpAny _ _ (call (Value.ref 194) _) _ _ _))) | (fail_if_success (fail_if_success (with_reducible show wpAny _ _ (call (Value.ref 201) _) _ _ _)))); k_dflt (refine' open1 (n1 := Str.ofString "value") ?k1 ?k2 ?k3 ?k4 ?k5 ?kA ?kF ?kK ?k6 ?k7 ?k8 ?k9 ?kB ?_ ?c2 ?c3 ?c4 ?c5; walk_at "my opened")))))
  all_goals (try rw [decide_eq_true (by assumption)])
  all_goals exact z _ _ (keepsM at0 hg (by assumption) (by assumption) [] fun _ q => nomatch q)
theorem opC_spec {a : Addr} {t1 t2 : Tok} (hr : s.heap.get? a = some (tupO [.int 5 t1, .int 7 t2])) {tk : Tok} (D : Rdy A base outer s.heap []) (C : Wd w base p loose mean mg mb) (hd : A.depth ≤ 570) (hu : A.units ≤ 1700)
    (z : ∀ h' tk', Keeps [] s.heap h' → R (.ok (.ret (.bool true))) { s with heap := h', toks := tk' }) : codeAny (MM w) A (.call (.ref 229) ⟨[.ref a, .str (Str.ofString "C") tk, .bool false], []⟩) R s := by
  refine' enter 570 1700 (binds := [(Str.ofString "value", .ref a), (Str.ofString "kind", .str (Str.ofString "C") tk), (Str.ofString "linked", .bool false)]) D C.X C.T hd hu ?k6 ?k7 ?k8 ?k9 ?kB ?_ ?c2 ?c3 ?c4 ?c5
  walk_at "my enter"
  intro g L h₁ tk' eL hg hgs F N l1 B X' T' env1
  have at0 := D.at_
  clear D l1
  have hta := tup_of (hg _ _ hr fun q => nomatch q)
  clear hr
  (repeat' (first | walk_at "my step" | (first | ((fail_if_success (fail_if_success (with_reducible show wpAny _ _ (call (Value.ref 187) _) _ _ _))); k_dflt (refine' open2 (n1 := Str.ofString "value") (n2 := Str.ofString "names") ?k1 ?k2 ?k3 ?k4 ?k5 ?kA ?kF ?kK ?k6 ?k7 ?k8 ?k9 ?kB ?_ ?c2 ?c3 ?c4 ?c5; walk_at "my opened")) | ((first | (fail_if_success (fail_if_success (with_reducible show wpAny _ _ (call (Value.ref 173) _) _ _ _))) | (fail_if_success (fail_if_success (with_reducible show wpAny _ _ (call (Value.ref 180) _) _ _ _))) | (fail_if_success (fail_if_success (with_reducible show wpAny _ _ (call (Value.ref 194) _) _ _ _))) | (fail_if_success (fail_if_success (with_reducible show wpAny _ _ (call (Value.ref 201) _) _ _ _)))); k_dflt (refine' open1 (n1 := Str.ofString "value") ?k1 ?k2 ?k3 ?k4 ?k5 ?kA ?kF ?kK ?k6 ?k7 ?k8 ?k9 ?kB ?_ ?c2 ?c3 ?c4 ?c5; walk_at "my opened")))))
  all_goals (try rw [decide_eq_true (by assumption)])
  all_goals exact z _ _ (keepsM at0 hg (by assumption) (by assumption) [] fun _ q => nomatch q)
theorem opF_spec {i : Int} {u : Tok} (hi : 0 ≤ i) {tk : Tok} (D : Rdy A base outer s.heap []) (C : Wd w base p loose mean mg mb) (hd : A.depth ≤ 570) (hu : A.units ≤ 1700)
    (z : ∀ h' tk', Keeps [] s.heap h' → R (.ok (.ret (.bool true))) { s with heap := h', toks := tk' }) : codeAny (MM w) A (.call (.ref 229) ⟨[.int i u, .str (Str.ofString "F") tk, .bool false], []⟩) R s := by
  refine' enter 570 1700 (binds := [(Str.ofString "value", .int i u), (Str.ofString "kind", .str (Str.ofString "F") tk), (Str.ofString "linked", .bool false)]) D C.X C.T hd hu ?k6 ?k7 ?k8 ?k9 ?kB ?_ ?c2 ?c3 ?c4 ?c5
  walk_at "my enter"
  intro g L h₁ tk' eL hg hgs F N l1 B X' T' env1
  have at0 := D.at_
  clear D l1
  (repeat' (first | walk_at "my step" | (first | ((fail_if_success (fail_if_success (with_reducible show wpAny _ _ (call (Value.ref 187) _) _ _ _))); k_dflt (refine' open2 (n1 := Str.ofString "value") (n2 := Str.ofString "names") ?k1 ?k2 ?k3 ?k4 ?k5 ?kA ?kF ?kK ?k6 ?k7 ?k8 ?k9 ?kB ?_ ?c2 ?c3 ?c4 ?c5; walk_at "my opened")) | ((first | (fail_if_success (fail_if_success (with_reducible show wpAny _ _ (call (Value.ref 173) _) _ _ _))) | (fail_if_success (fail_if_success (with_reducible show wpAny _ _ (call (Value.ref 180) _) _ _ _))) | (fail_if_success (fail_if_success (with_reducible show wpAny _ _ (call (Value.ref 194) _) _ _ _))) | (fail_if_success (fail_if_success (with_reducible show wpAny _ _ (call (Value.ref 201) _) _ _ _)))); k_dflt (refine' open1 (n1 := Str.ofString "value") ?k1 ?k2 ?k3 ?k4 ?k5 ?kA ?kF ?kK ?k6 ?k7 ?k8 ?k9 ?kB ?_ ?c2 ?c3 ?c4 ?c5; walk_at "my opened")))))
  all_goals (try rw [decide_eq_true (by assumption)])
  all_goals exact z _ _ (keepsM at0 hg (by assumption) (by assumption) [] fun _ q => nomatch q)
theorem opN_spec {i : Int} {u : Tok} (hi : 0 ≤ i) {tk : Tok} (D : Rdy A base outer s.heap []) (C : Wd w base p loose mean mg mb) (hd : A.depth ≤ 570) (hu : A.units ≤ 1700)
    (z : ∀ h' tk', Keeps [] s.heap h' → R (.ok (.ret (.bool true))) { s with heap := h', toks := tk' }) : codeAny (MM w) A (.call (.ref 229) ⟨[.int i u, .str (Str.ofString "N") tk, .bool false], []⟩) R s := by
  refine' enter 570 1700 (binds := [(Str.ofString "value", .int i u), (Str.ofString "kind", .str (Str.ofString "N") tk), (Str.ofString "linked", .bool false)]) D C.X C.T hd hu ?k6 ?k7 ?k8 ?k9 ?kB ?_ ?c2 ?c3 ?c4 ?c5
  walk_at "my enter"
  intro g L h₁ tk' eL hg hgs F N l1 B X' T' env1
  have at0 := D.at_
  clear D l1
  (repeat' (first | walk_at "my step" | (first | ((fail_if_success (fail_if_success (with_reducible show wpAny _ _ (call (Value.ref 187) _) _ _ _))); k_dflt (refine' open2 (n1 := Str.ofString "value") (n2 := Str.ofString "names") ?k1 ?k2 ?k3 ?k4 ?k5 ?kA ?kF ?kK ?k6 ?k7 ?k8 ?k9 ?kB ?_ ?c2 ?c3 ?c4 ?c5; walk_at "my opened")) | ((first | (fail_if_success (fail_if_success (with_reducible show wpAny _ _ (call (Value.ref 173) _) _ _ _))) | (fail_if_success (fail_if_success (with_reducible show wpAny _ _ (call (Value.ref 180) _) _ _ _))) | (fail_if_success (fail_if_success (with_reducible show wpAny _ _ (call (Value.ref 194) _) _ _ _))) | (fail_if_success (fail_if_success (with_reducible show wpAny _ _ (call (Value.ref 201) _) _ _ _)))); k_dflt (refine' open1 (n1 := Str.ofString "value") ?k1 ?k2 ?k3 ?k4 ?k5 ?kA ?kF ?kK ?k6 ?k7 ?k8 ?k9 ?kB ?_ ?c2 ?c3 ?c4 ?c5; walk_at "my opened")))))
  all_goals (try rw [decide_eq_true (by assumption)])
  all_goals exact z _ _ (keepsM at0 hg (by assumption) (by assumption) [] fun _ q => nomatch q)
def OpOk (h : Heap) (v : Value) (kd : Str) : Prop :=
  (∃ a b k, v = .ref a ∧ IsRg h a b k ∧ 1 ≤ k ∧ kd = Str.ofString "R") ∨ (∃ a k, v = .ref a ∧ IsRg h a true k ∧ 1 ≤ k ∧ kd = Str.ofString "X") ∨ (∃ a t1 t2, v = .ref a ∧ h.get? a = some (tupO [.int 5 t1, .int 7 t2]) ∧ kd = Str.ofString "C") ∨
    (∃ i u, v = .int i u ∧ 0 ≤ i ∧ kd = Str.ofString "F") ∨ (∃ i u, v = .int i u ∧ 0 ≤ i ∧ kd = Str.ofString "N")
theorem op_use {H : Heap} {v : Value} {kd : Str} {t : Tok} (B : Below A₀ base outer g) (F : Fr g L s.heap m) (N : News g L s.heap news) (C : Wd w base p loose mean mg mb)
    (hh : A.handled = none) (hA : A.frames = some (env :: outer)) (hf : env.frame = some L) (hke : env.scope.kind = .function) (hd : A.depth ≤ 570) (hu : A.units ≤ 1700) (ho : OpOk H v kd) (hS : ∀ b o, H.get? b = some o → s.heap.get? b = some o)
    (z : ∀ h' tk', Fr g L h' m → News g L h' news → Q (.bool true) { s with heap := h', toks := tk' }) : wpAny (MM w) A (call (.ref 229) [v, .str kd t, .bool false]) Q E s := by
  have N0 : News g L s.heap [] := newsSub N fun _ q => nomatch q
  have D := Rdy.nest B F N0 hh hA hf hke
  have K0 := up_keep hS
  have zz : ∀ h' tk', Keeps [] s.heap h' → Q (.bool true) { s with heap := h', toks := tk' } := fun h' tk' hK => z h' tk' (frAfter F (mods := []) N0 hK) (newsAfter0 N hK)
  refine wpAny_call ?_
  rcases ho with ⟨a, b, k, rfl, hr, hk, rfl⟩ | ⟨a, k, rfl, hr, hk, rfl⟩ | ⟨a, t1, t2, rfl, hr, rfl⟩ | ⟨i, u, rfl, hi, rfl⟩ | ⟨i, u, rfl, hi, rfl⟩
  · exact opR_spec (hr.keep K0 nt_nil) hk D C hd hu zz
  · exact opX_spec (hr.keep K0 nt_nil) hk D C hd hu zz
  · exact opC_spec (hS _ _ hr) D C hd hu zz
  · exact opF_spec hi D C hd hu zz
  · exact opN_spec hi D C hd hu zz
end
section
variable {w : World} {A A₀ : Around} {base g : Heap} {outer : List Env} {env : Env} {s : Shared} {p : Program} {loose : List Str} {mean : ExcName → Option Value} {mg mb : Str → Option Value}
  {R : Result → Shared → Prop} {Q E : Value → Shared → Prop} {L : Addr} {m : Str → Option Value} {news : List (Addr × Obj)}
def RowC (w : World) (i : Ins) : Prop := ∀ {A : Around} {base : Heap} {outer : List Env} {s : Shared} {p : Program} {loose : List Str} {mean : ExcName → Option Value} {mg mb : Str → Option Value} {R : Result → Shared → Prop}
    {tb r : Addr} {ot : Obj} {kvs : List (Str × Value)},
    Rdy A base outer s.heap [(tb, ot)] → Wd w base p loose mean mg mb → A.depth ≤ 560 → A.units ≤ 1600 → ot.IsDictOf (strKind PP w) kvs → (tb == sysModules) = false → ShK kvs → IsIns fsN s.heap r i → InsOk i → NT s.heap [tb] →
    (∀ h' tk', Keeps [] s.heap h' → R (.ok (.ret .none)) { s with heap := h', toks := tk' }) → codeAny (MM w) A (.call (.ref 236) ⟨[.ref tb, .ref r, .bool false], []⟩) R s
end
local macro_rules | `(tactic| walk_at "call builtin:len") => `(tactic| ((fail_if_success (fail_if_success (with_reducible show wpAny _ _ (call (Value.builtin "len") [Value.str _ _]) _ _ _))); refine len_lit (by assumption) (by decide) ?_))
local macro_rules | `(tactic| walk_at "subscriptTail") => `(tactic| ((fail_if_success (fail_if_success (with_reducible show wpAny _ _ (subscriptTail _ _ (Value.str _ _) (Value.int _ _)) _ _ _))); refine item_lit rfl (by assumption) (by decide) (by decide) (by decide) ?_))
section
variable {w : World} {A A₀ : Around} {base g : Heap} {outer : List Env} {env : Env} {s : Shared} {p : Program} {loose : List Str} {mean : ExcName → Option Value} {mg mb : Str → Option Value}
  {R : Result → Shared → Prop} {Q E : Value → Shared → Prop} {L : Addr} {m : Str → Option Value} {news : List (Addr × Obj)}
theorem OpOk.keep {h h' : Heap} {as : List Addr} {v : Value} {kd : Str} (x : OpOk h v kd) (hK : Keeps as h h') (n : NT h as) : OpOk h' v kd := by
  rcases x with ⟨a, b, k, e, hr, hk, e2⟩ | ⟨a, k, e, hr, hk, e2⟩ | ⟨a, t1, t2, e, hr, e2⟩ | x | x
  · exact .inl ⟨a, b, k, e, hr.keep hK n, hk, e2⟩
  · exact .inr (.inl ⟨a, k, e, hr.keep hK n, hk, e2⟩)
  · exact .inr (.inr (.inl ⟨a, t1, t2, e, hK _ _ hr fun q => n _ q _ hr rfl, e2⟩))
  · exact .inr (.inr (.inr (.inl x)))
  · exact .inr (.inr (.inr (.inr x)))
/-- what a row's operands are, by their number -/
def Ops (h : Heap) (kd : Str) (ops : List Value) : Prop :=
  (ops = [] ∧ kd.length = 0) ∨ (∃ v y, ops = [v] ∧ kd.length = 1 ∧ Txt.item kd 0 = y ∧ OpOk h v y) ∨ (∃ v v' y y', ops = [v, v'] ∧ kd.length = 2 ∧ Txt.item kd 0 = y ∧ Txt.item kd 1 = y' ∧ OpOk h v y ∧ OpOk h v' y')
theorem Ops.keep {h h' : Heap} {as : List Addr} {kd : Str} {ops : List Value} (x : Ops h kd ops) (hK : Keeps as h h') (n : NT h as) : Ops h' kd ops := by
  rcases x with x | ⟨v, y, a, b, c, d⟩ | ⟨v, v', y, y', a, b, c, d, e, f⟩
  · exact .inl x
  · exact .inr (.inl ⟨v, y, a, b, c, d.keep hK n⟩)
  · exact .inr (.inr ⟨v, v', y, y', a, b, c, d, e.keep hK n, f.keep hK n⟩)
theorem rd {h : Heap} {r : Addr} {kvs : List (Str × Value)} {word kd : Str} {tw : Tok} {ops : List Value} (e : h.get? r = some (tupO (.str word tw :: ops))) (x : ∃ tq, valueAt kvs word = some (.str kd tq)) (o : Ops h kd ops) :
    ∃ word tw ops kd tq, h.get? r = some (tupO (.str word tw :: ops)) ∧ valueAt kvs word = some (.str kd tq) ∧ Ops h kd ops := by
  obtain ⟨tq, x⟩ := x
  exact ⟨word, tw, ops, kd, tq, e, x, o⟩
theorem row_data {h : Heap} {r : Addr} {kvs : List (Str × Value)} (hsh : ShK kvs) : ∀ {i : Ins}, IsIns fsN h r i → InsOk i → ∃ word tw ops kd tq, h.get? r = some (tupO (.str word tw :: ops)) ∧ valueAt kvs word = some (.str kd tq) ∧ Ops h kd ops := by
  have R2 : ∀ {a c : Addr} {b : Bool} {k j : Int}, IsRg h a b k → IsRg h c true j → RgOk b k → RgOk true j → Ops h (Str.ofString "RX") [.ref a, .ref c] := fun x y h1 h2 =>
    .inr (.inr ⟨_, _, Str.ofString "R", Str.ofString "X", rfl, by decide +kernel, by decide +kernel, by decide +kernel, .inl ⟨_, _, _, rfl, x, h1.1, rfl⟩, .inr (.inl ⟨_, _, rfl, y, h2.1, rfl⟩)⟩)
  have C2 : ∀ {a c : Addr} {t1 t2 : Tok} {j : Int}, h.get? a = some (tupO [.int 5 t1, .int 7 t2]) → IsRg h c true j → RgOk true j → Ops h (Str.ofString "CX") [.ref a, .ref c] := fun x y h2 =>
    .inr (.inr ⟨_, _, Str.ofString "C", Str.ofString "X", rfl, by decide +kernel, by decide +kernel, by decide +kernel, .inr (.inr (.inl ⟨_, _, _, rfl, x, rfl⟩)), .inr (.inl ⟨_, _, rfl, y, h2.1, rfl⟩)⟩)
  have R1 : ∀ {a : Addr} {b : Bool} {k : Int}, IsRg h a b k → RgOk b k → Ops h (Str.ofString "R") [.ref a] := fun x h1 =>
    .inr (.inl ⟨_, Str.ofString "R", rfl, by decide +kernel, by decide +kernel, .inl ⟨_, _, _, rfl, x, h1.1, rfl⟩⟩)
  have F1 : ∀ {i : Int} {u : Tok}, 0 ≤ i → Ops h (Str.ofString "F") [.int i u] := fun x => .inr (.inl ⟨_, Str.ofString "F", rfl, by decide +kernel, by decide +kernel, .inr (.inr (.inr (.inl ⟨_, _, rfl, x, rfl⟩)))⟩)
  have N1 : ∀ {i : Int} {u : Tok}, 0 ≤ i → Ops h (Str.ofString "N") [.int i u] := fun x => .inr (.inl ⟨_, Str.ofString "N", rfl, by decide +kernel, by decide +kernel, .inr (.inr (.inr (.inr ⟨_, _, rfl, x, rfl⟩)))⟩)
  have Z0 : Ops h (Str.ofString "") [] := .inl ⟨rfl, rfl⟩
  have fs : ∀ {i : Int}, 0 ≤ i → 0 ≤ fsN i := fun x => by unfold fsN; omega
  intro i x hi
  cases i with
  | gvar => obtain ⟨t, a, c, e, x, y⟩ := x; exact rd e (hsh ("get_variable", "RX") (by decide)) (R2 x y hi.1 hi.2)
  | gval => obtain ⟨t, a, c, e, x, y⟩ := x; exact rd e (hsh ("get_value", "RX") (by decide)) (R2 x y hi.1 hi.2)
  | pval => obtain ⟨t, a, c, e, x, y⟩ := x; exact rd e (hsh ("put_value", "RX") (by decide)) (R2 x y hi.1 hi.2)
  | pvar => obtain ⟨t, a, c, e, x, y⟩ := x; exact rd e (hsh ("put_variable", "RX") (by decide)) (R2 x y hi.1 hi.2)
  | gcon => obtain ⟨t, a, c, t₁, t₂, e, x, y⟩ := x; exact rd e (hsh ("get_constant", "CX") (by decide)) (C2 x y hi)
  | pcon => obtain ⟨t, a, c, t₁, t₂, e, x, y⟩ := x; exact rd e (hsh ("put_constant", "CX") (by decide)) (C2 x y hi)
  | alloc => obtain ⟨t, t', e⟩ := x; exact rd e (hsh ("allocate", "N") (by decide)) (N1 hi.1)
  | call => obtain ⟨t, t', t'', e⟩ := x; exact rd e (hsh ("call", "FN") (by decide)) (.inr (.inr ⟨_, _, Str.ofString "F", Str.ofString "N", rfl, by decide +kernel, by decide +kernel, by decide +kernel, .inr (.inr (.inr (.inl ⟨_, _, rfl, fs hi.1.1, rfl⟩))), .inr (.inr (.inr (.inr ⟨_, _, rfl, hi.2.1, rfl⟩)))⟩))
  | exec => obtain ⟨t, t', e⟩ := x; exact rd e (hsh ("execute", "F") (by decide)) (F1 (fs hi.1))
  | blt => obtain ⟨t, t', e⟩ := x; exact rd e (hsh ("builtin", "F") (by decide)) (F1 (fs hi.1))
  | lev => obtain ⟨t, a, e, x⟩ := x; exact rd e (hsh ("get_level", "R") (by decide)) (R1 x hi)
  | cut => obtain ⟨t, a, e, x⟩ := x; exact rd e (hsh ("cut_to", "R") (by decide)) (R1 x hi)
  | dea => obtain ⟨t, e⟩ := x; exact rd e (hsh ("deallocate", "") (by decide)) (Z0)
  | pro => obtain ⟨t, e⟩ := x; exact rd e (hsh ("proceed", "") (by decide)) (Z0)
  | neck => obtain ⟨t, e⟩ := x; exact rd e (hsh ("neck_cut", "") (by decide)) (Z0)
  | fail => obtain ⟨t, e⟩ := x; exact rd e (hsh ("fail", "") (by decide)) (Z0)
theorem row_all (i : Ins) : RowC w i := by
  intro A base outer s p loose mean mg mb R tb r ot kvs D C hd hu hot ltb hsh hr hi nt z
  obtain ⟨word, tw, ops, kd, tq, er, hval, hops⟩ := row_data hsh hr hi
  have hsome : (valueAt kvs word).isSome = true := by rw [hval]; rfl
  clear hsh hr hi
  refine' enter 560 1600 (binds := [(Str.ofString "table", .ref tb), (Str.ofString "ins", .ref r), (Str.ofString "linked", .bool false)]) D C.X C.T hd hu ?k6 ?k7 ?k8 ?k9 ?kB ?_ ?c2 ?c3 ?c4 ?c5
  walk_at "my enter"
  intro g L h₁ tk eL hg hgs F N l1 B X' T' env1
  have at0 := D.at_
  clear D
  k_lt l1
  have htup : IsTup g r (.str word tw :: ops).toArray := ⟨_, hg _ _ er fun q => nt _ q _ er rfl, rfl, 0, rfl⟩
  replace hops := hops.keep hg nt
  clear er
  rcases hops with ⟨rfl, hl⟩ | ⟨v, y, rfl, hl, hy, ho⟩ | ⟨v, v', y, y', rfl, hl, hy, hy', ho, ho'⟩
  · have hl' : (kd.length : Int) = 0 := by rw [hl]; rfl
    (repeat' (first | walk_at "my step" | (((fail_if_success (fail_if_success (with_reducible show wpAny _ _ (call (Value.ref 229) _) _ _ _))); refine op_use (by assumption) (by assumption) (by assumption) (by assumption) rfl rfl rfl rfl (Nat.le_of_ble_eq_true rfl) (Nat.le_of_ble_eq_true rfl) (by assumption) (by (first | (first | exact stay1 (by assumption) | exact stay2 (by assumption) (by assumption) | exact stay3 (by assumption) (by assumption) (by assumption)) | (exact stay4 (by assumption) (by assumption) (by assumption) (by assumption)) | (first | exact stay1 (by assumption) | exact stay2 (by assumption) (by assumption) | exact stay3 (by assumption) (by assumption) (by assumption)))) ?_; intro h'_m tk'_m F'_m N'_m; (try dsimp only); (try k_sweep)))))
    all_goals exact z _ _ (keepsM at0 hg (by assumption) (by assumption) [] (by intro q hq; rw [List.mem_singleton.mp hq]; exact .inr (by k_mem)))
  · have hl' : (kd.length : Int) = 1 := by rw [hl]; rfl
    subst hy
    replace ho : OpOk g v (Txt.item kd (0 + ((0 : Nat) : Int))) := ho
    (repeat' (first | walk_at "my step" | (((fail_if_success (fail_if_success (with_reducible show wpAny _ _ (call (Value.ref 229) _) _ _ _))); refine op_use (by assumption) (by assumption) (by assumption) (by assumption) rfl rfl rfl rfl (Nat.le_of_ble_eq_true rfl) (Nat.le_of_ble_eq_true rfl) (by assumption) (by (first | (first | exact stay1 (by assumption) | exact stay2 (by assumption) (by assumption) | exact stay3 (by assumption) (by assumption) (by assumption)) | (exact stay4 (by assumption) (by assumption) (by assumption) (by assumption)) | (first | exact stay1 (by assumption) | exact stay2 (by assumption) (by assumption) | exact stay3 (by assumption) (by assumption) (by assumption)))) ?_; intro h'_m tk'_m F'_m N'_m; (try dsimp only); (try k_sweep)))))
    all_goals exact z _ _ (keepsM at0 hg (by assumption) (by assumption) [] (by intro q hq; rw [List.mem_singleton.mp hq]; exact .inr (by k_mem)))
  · have hl' : (kd.length : Int) = 2 := by rw [hl]; rfl
    subst hy hy'
    replace ho : OpOk g v (Txt.item kd (0 + ((0 : Nat) : Int))) := ho
    replace ho' : OpOk g v' (Txt.item kd (0 + ((0 + 1 : Nat) : Int))) := ho'
    (repeat' (first | walk_at "my step" | (((fail_if_success (fail_if_success (with_reducible show wpAny _ _ (call (Value.ref 229) _) _ _ _))); refine op_use (by assumption) (by assumption) (by assumption) (by assumption) rfl rfl rfl rfl (Nat.le_of_ble_eq_true rfl) (Nat.le_of_ble_eq_true rfl) (by assumption) (by (first | (first | exact stay1 (by assumption) | exact stay2 (by assumption) (by assumption) | exact stay3 (by assumption) (by assumption) (by assumption)) | (exact stay4 (by assumption) (by assumption) (by assumption) (by assumption)) | (first | exact stay1 (by assumption) | exact stay2 (by assumption) (by assumption) | exact stay3 (by assumption) (by assumption) (by assumption)))) ?_; intro h'_m tk'_m F'_m N'_m; (try dsimp only); (try k_sweep)))))
    all_goals exact z _ _ (keepsM at0 hg (by assumption) (by assumption) [] (by intro q hq; rw [List.mem_singleton.mp hq]; exact .inr (by k_mem)))

theorem row_use {H : Heap} {tb r : Addr} {ot : Obj} {kvs : List (Str × Value)} {i : Ins} (B : Below A₀ base outer g) (F : Fr g L s.heap m) (N : News g L s.heap news) (C : Wd w base p loose mean mg mb)
    (hh : A.handled = none) (hA : A.frames = some (env :: outer)) (hf : env.frame = some L) (hke : env.scope.kind = .function) (hd : A.depth ≤ 560) (hu : A.units ≤ 1600) (m1 : (tb, ot) ∈ news) (hot : ot.IsDictOf (strKind PP w) kvs) (ltb : (tb == sysModules) = false) (hsh : ShK kvs)
    (hr : IsIns fsN H r i) (hi : InsOk i) (hS : ∀ b o, H.get? b = some o → s.heap.get? b = some o)
    (z : ∀ h' tk', Fr g L h' m → News g L h' news → Q .none { s with heap := h', toks := tk' }) : wpAny (MM w) A (call (.ref 236) [.ref tb, .ref r, .bool false]) Q E s := by
  have N0 : News g L s.heap [] := newsSub N fun _ q => nomatch q
  have N1 : News g L s.heap [(tb, ot)] := newsSub N fun p hp => by rw [List.mem_singleton.mp hp]; exact m1
  have nt : NT s.heap [tb] := nt_of (mods := [(tb, ot)]) (fun p hp => (N1 p hp).1) (by
    intro p hp
    rw [List.mem_singleton.mp hp]
    exact dict_cls hot)
  exact wpAny_call (row_all i (Rdy.nest B F N1 hh hA hf hke) C hd hu hot ltb hsh (hr.keep (up_keep hS) nt_nil) hi nt fun h' tk' hK => z h' tk' (frAfter F (mods := []) N0 hK) (newsAfter0 N hK))
end
section
variable {w : World} {A A₀ : Around} {base g : Heap} {outer : List Env} {env : Env} {s : Shared} {p : Program} {loose : List Str} {mean : ExcName → Option Value} {mg mb : Str → Option Value}
  {R : Result → Shared → Prop} {Q E : Value → Shared → Prop} {L : Addr} {m : Str → Option Value} {news : List (Addr × Obj)}
def xs0 (n : Int) : List Int := if n ≤ 0 then [] else if n = 1 then [1] else if n = 2 then [1, 2] else [1, 2, 3]
theorem notIn2L {d a b : Nat} (h1 : a < d) (h2 : b < d) : d ∉ [a, b] := by
  have := Nat.ne_of_lt h1
  have := Nat.ne_of_lt h2
  simp; omega
def xsR (i : Nat) : List Int := (List.range i).map fun (k : Nat) => (1 : Int) + (k : Int)
theorem xsR_succ (i : Nat) : xsR (i + 1) = xsR i ++ [(1 : Int) + (i : Int)] := by simp [xsR, List.range_succ]
theorem xsR_put {i : Nat} : put (xsR i) ((1 : Int) + (i : Int)) = xsR (i + 1) := by
  rw [xsR_succ]
  unfold put
  rw [if_neg]
  simp [xsR]
  omega
theorem xsR_len (i : Nat) : (xsR i).length = i := by simp [xsR]
theorem xsR_end {n : Int} (h0 : 0 ≤ n) (h1 : n < 4) : xsR n.toNat = xs0 n := by
  obtain ⟨k, rfl⟩ := Int.eq_ofNat_of_zero_le h0
  have hk : k < 4 := Int.ofNat_lt.mp h1
  match k, hk with
  | 0, _ => rfl
  | 1, _ => rfl
  | 2, _ => rfl
  | 3, _ => rfl
inductive XsI (w : World) (XA x dx S : Addr) (n : Int) (tn k1 k2 : Tok) (i : Nat) (m' : Str → Option Value) (news' : List (Addr × Obj)) : Prop where
  | mk (pv : Option Value) (oX : Obj) (e0 : m' = (fun y => if y = Str.ofString "place" then pv else List.lookup y [(Str.ofString "self", Value.ref x), (Str.ofString "symbols", Value.ref S), (Str.ofString "arity", Value.int n tn)].reverse)) (e1 : news' = [(XA, oX), (x, instObj 337 dx), (dx, dictOf [ent w (Str.ofString "symbols") k1 (.ref S), ent w (Str.ofString "xs") k2 (.ref XA)] 2)]) (e2 : oX.IsDictOf (intKind PP w) (tr (xsR i)))
theorem ckinit_spec {x dx S : Addr} {n : Int} {tn : Tok} (D : Rdy A base outer s.heap [(x, instObj 337 dx), (dx, dictOf [] 0)]) (C : Wd w base p loose mean mg mb) (hd : A.depth ≤ 560) (hu : A.units ≤ 1600) (hne : @Ne Nat x dx) (hn : 0 ≤ n ∧ n < 4)
    (z : ∀ T t1 t5 X Y oX oY h' tk', Keeps [dx] s.heap h' → h'.get? dx = some (ckO w T S X Y (-1) false (Str.ofString "") t1 t5) → h'.get? X = some oX → h'.get? Y = some oY → oX.IsDictOf (intKind PP w) (tr (xs0 n)) → oY.IsDictOf (intKind PP w) (tr []) →
      s.heap.get? X = none → s.heap.get? Y = none → @Ne Nat X Y → (X == sysModules) = false → (Y == sysModules) = false → R (.ok (.ret .none)) { s with heap := h', toks := tk' }) :
    codeAny (MM w) A (.call (.ref 250) ⟨[.ref x, .ref S, .int n tn], []⟩) R s := by
  refine' enter 560 1600 (binds := [(Str.ofString "self", .ref x), (Str.ofString "symbols", .ref S), (Str.ofString "arity", .int n tn)]) D C.X C.T hd hu ?k6 ?k7 ?k8 ?k9 ?kB ?_ ?c2 ?c3 ?c4 ?c5
  walk_at "my enter"
  intro g L h₁ tk eL hg hgs F N l1 B X' T' env1
  have at0 := D.at_
  clear D
  k_lt l1
  have zz : ∀ k1 k2 k3 k4 k5 k6 k7 k8 k9 t2 t3 t4 t1 t5 X Y oX oY h' tk', h'.get? dx = some (ckO w ⟨k1, k2, k3, k4, k5, k6, k7, k8, k9, t2, t3, t4⟩ S X Y (-1) false (Str.ofString "") t1 t5) → h'.get? X = some oX → h'.get? Y = some oY → oX.IsDictOf (intKind PP w) (tr (xs0 n)) → oY.IsDictOf (intKind PP w) (tr []) →
      (X == sysModules) = false → (Y == sysModules) = false → @Ne Nat X Y → s.heap.get? X = none → s.heap.get? Y = none → Keeps [dx] s.heap h' → R (.ok (.ret .none)) { s with heap := h', toks := tk' } := by
    intro k1 k2 k3 k4 k5 k6 k7 k8 k9 t2 t3 t4 t1 t5 X Y oX oY h' tk' h1 h2 h3 h4 h5 h6 h7 h8 h9 h10 h11
    exact z _ t1 t5 X Y oX oY h' tk' h11 h1 h2 h3 h4 h5 h9 h10 h8 h6 h7
  repeat' (first | ((fail_if_success (with_reducible show wpAny _ _ (call (Value.type "range") _) _ _ _)); walk_at "my step"))
  refine range2_rows (by assumption) (by assumption) ?_
  intro hr tkr r1 r2 r3 hR FR NR upR
  try dsimp only
  k_sweep
  rename_i _ XA _ oA lXA _ _ hXA _ lX1 _
  obtain ⟨k1, k2, NR⟩ : ∃ k1 k2, News g L hr [(XA, oA), (x, instObj 337 dx), (dx, dictOf [ent w (Str.ofString "symbols") k1 (.ref S), ent w (Str.ofString "xs") k2 (.ref XA)] 2)] := ⟨_, _, NR⟩
  have hrs := rs4 hn.1 hn.2
  refine iter_rangeUnr (n := n.toNat) rfl hR hrs.2 hrs.1 FR NR ?_
  intro I lI
  have i1 : @Ne Nat XA I := Nat.ne_of_lt (lI (XA, oA) (by k_mem))
  have i2 : @Ne Nat I XA := i1.symm
  have i3 : @Ne Nat x I := Nat.ne_of_lt (lI (x, _) (by k_mem))
  have i4 : @Ne Nat dx I := Nat.ne_of_lt (lI (dx, _) (by k_mem))
  have x1 : @Ne Nat x XA := Nat.ne_of_lt lX1.1
  have x2 : @Ne Nat dx XA := Nat.ne_of_lt lX1.2
  refine rangeInv (fun i m' news' => XsI w XA x dx S n tn k1 k2 i m' news') ?_ ?_ n.toNat 0 _ _ (Nat.zero_add _) ⟨none, oA, ?_, rfl, hXA⟩
  · rintro i m' news' hin ⟨pv, oX, rfl, rfl, hoX⟩ tp hp tkp FP NP
    have hlen : (xsR i).length ≤ 100 := by rw [xsR_len]; omega
    try dsimp only
    repeat' (first | ((fail_if_success (with_reducible show UnrEnd _ _ _ _ _ _ _)); (fail_if_success (with_reducible show UnrPost _ _ _ _ _ _ _ _ _)); walk_at "my step"))
    have hput := (by assumption : Obj.IsDictOf (intKind PP w) _ (tr (put (xsR i) _)))
    rw [xsR_put] at hput
    exact UnrEnd.intro (by assumption) (by assumption) [(XA, _), (x, instObj 337 dx), (dx, dictOf [ent w (Str.ofString "symbols") k1 (.ref S), ent w (Str.ofString "xs") k2 (.ref XA)] 2)] (fun _ hp => hp) (by exact allNe_mem ⟨i1, i3, i4, trivial⟩) ⟨some _, _, by funext y; by_cases h1 : y = Str.ofString "place" <;> simp [h1] <;> exact rfl, rfl, hput⟩
  · rintro m' news' ⟨pv, oX, rfl, rfl, hoX⟩ hp tkp FP NP
    rw [xsR_end hn.1 hn.2] at hoX
    try dsimp only
    clear FR NR
    (repeat' (walk_at "my step"))
    refine zz _ _ _ _ _ _ _ _ _ _ _ _ _ _ _ _ _ _ _ _ (News.get (by assumption) (by k_mem)) (News.get (by assumption) (by k_mem)) (News.get (by assumption) (by k_mem)) (show Obj.IsDictOf (intKind PP _) _ (tr (xs0 n)) from (by assumption)) (show Obj.IsDictOf (intKind PP _) _ (tr []) from (by assumption)) (by assumption) (by assumption) ?_ ?_ ?_ ?_
    · omega
    · exact freshOf hg (newNoneN (by assumption) (by k_mem)) (notIn2L (by (refine ltN ?_; (try dsimp only); omega)) (by (refine ltN ?_; (try dsimp only); omega)))
    · exact freshOf hg (newNoneN (by assumption) (by k_mem)) (notIn2L (by (refine ltN ?_; (try dsimp only); omega)) (by (refine ltN ?_; (try dsimp only); omega)))
    · exact keepsM at0 hg (by assumption) (by assumption) [dx] (by
        intro p hp
        rcases List.mem_cons.mp hp with rfl | hp
        · exact .inr (by k_mem)
        · rw [List.mem_singleton.mp hp]; exact .inl (.head _))
  · funext y
    by_cases h1 : y = Str.ofString "place"
    · subst h1; exact rfl
    · exact (if_neg h1).symm
end
section
variable {w : World} {A A₀ : Around} {base g : Heap} {outer : List Env} {env : Env} {s : Shared} {p : Program} {loose : List Str} {mean : ExcName → Option Value} {mg mb : Str → Option Value}
  {R : Result → Shared → Prop} {Q E : Value → Shared → Prop} {L : Addr} {m : Str → Option Value} {news : List (Addr × Obj)}
inductive RowsAre (h : Heap) : List Value → List Ins → Prop
  | nil : RowsAre h [] []
  | cons {r : Addr} {i : Ins} {vs : List Value} {is : List Ins} : IsIns fsN h r i → InsOk i → RowsAre h vs is → RowsAre h (.ref r :: vs) (i :: is)
theorem RowsAre.keep {h h' : Heap} {as : List Addr} (hK : Keeps as h h') (n : NT h as) {vs : List Value} {is : List Ins} (x : RowsAre h vs is) : RowsAre h' vs is := by
  induction x with
  | nil => exact .nil
  | cons a b _ ih => exact .cons (a.keep hK n) b ih
theorem RowsAre.length {h : Heap} {vs : List Value} {is : List Ins} (x : RowsAre h vs is) : vs.length = is.length := by
  induction x with
  | nil => rfl
  | cons _ _ _ ih => simp [ih]
theorem RowsAre.at {h : Heap} {vs : List Value} {is : List Ins} (x : RowsAre h vs is) : ∀ {j : Nat} (hj : j < is.length), ∃ r, vs[j]? = some (.ref r) ∧ IsIns fsN h r is[j] ∧ InsOk is[j] := by
  induction x with
  | nil => intro j hj; cases hj
  | @cons r i vs is a b _ ih =>
    intro j hj
    cases j with
    | zero => exact ⟨r, rfl, a, b⟩
    | succ j => exact ih (by simpa using hj)
def isFail : Ins → Bool
  | .fail => true
  | _ => false
def ckTurn (c : CkS) (x : Ins) : CkS := if c.ended = true then { c with fault := cpl c.fault (Str.ofString "code behind the end") } else ckStep c x
def dig (i : Nat) : Str := Str.empty ++ Str.ofString (toString (i : Int))
def ckLoop (n : Nat) : Nat → List Ins → CkS → Bool → Str
  | _, [], c, _ => if c.ended = true then Str.ofString "" else dig n ++ Str.ofString ": the clause has no end"
  | i, x :: r, c, dead => if dead = true then ckLoop n (i + 1) r c true else if (ckTurn c x).fault = Str.ofString "" then ckLoop n (i + 1) r (ckTurn c x) (isFail x) else dig i ++ Str.ofString ": " ++ (ckTurn c x).fault
def ck0 (n : Int) : CkS := ⟨xs0 n, [], -1, false, Str.ofString ""⟩
theorem word_fail (i : Ins) : (wordOf i == Str.ofString "fail") = isFail i := by
  cases i <;> first | (show (Str.ofString _ == _) = false; decide +kernel) | (show (Str.ofString _ == _) = true; decide +kernel)
theorem IsIns.word {fs : Int → Int} {h : Heap} {r : Addr} {i : Ins} (x : IsIns fs h r i) : ∃ word t rest, h.get? r = some (tupO (.str word t :: rest)) ∧ (word == Str.ofString "fail") = isFail i := by
  obtain ⟨t, ops, _, e, _⟩ := x.objs
  exact ⟨_, t, ops, e, word_fail i⟩
theorem sp_len {b : Bool} {k : Int} (h1 : 1 ≤ k) (h3 : k ≤ 3) : (spE b k).length ≤ 2 := by
  have := rn_len b
  have := dig_len h1 h3
  have : Str.empty.length = 0 := rfl
  unfold spE
  rw [Str.length_append, Str.length_append]; omega
theorem app_len {a b : Str} {n : Nat} (ha : a.length ≤ 2) (hb : b.length ≤ n) (hn : n ≤ 98) : (a ++ b).length ≤ 100 := by rw [Str.length_append]; omega
theorem cpl_len {f t : Str} (hf : f.length ≤ 100) (ht : t.length ≤ 100) : (cpl f t).length ≤ 100 := by unfold cpl; split <;> assumption
theorem cpo_len {f : Str} {t : Option Str} (hf : f.length ≤ 100) (ht : ∀ x, t = some x → x.length ≤ 100) : (cpo f t).length ≤ 100 := by
  cases t with
  | none => exact hf
  | some x => exact cpl_len hf (ht x rfl)
theorem some_len {y x : Str} (h : y.length ≤ 100) (e : some y = some x) : x.length ≤ 100 := by rw [← Option.some.inj e]; exact h
theorem sp_len1 {b : Bool} {k : Int} (h1 : 1 ≤ k) (h3 : k ≤ 3) : (spE b k ++ Str.ofString " is read before it is written").length ≤ 100 := app_len (sp_len h1 h3) (show (Str.ofString " is read before it is written").length ≤ 50 by decide +kernel) (by decide)
theorem sp_len2 {b : Bool} {k : Int} (h1 : 1 ≤ k) (h3 : k ≤ 3) : (spE b k ++ Str.ofString " is read outside of the environment").length ≤ 100 := app_len (sp_len h1 h3) (show (Str.ofString " is read outside of the environment").length ≤ 50 by decide +kernel) (by decide)
theorem sp_len3 {b : Bool} {k : Int} (h1 : 1 ≤ k) (h3 : k ≤ 3) : (spE b k ++ Str.ofString " is written outside of the environment").length ≤ 100 := app_len (sp_len h1 h3) (show (Str.ofString " is written outside of the environment").length ≤ 50 by decide +kernel) (by decide)
theorem ckRead_len {xs ys : List Int} {size : Int} {b : Bool} {k : Int} (h : RgOk b k) : ∀ x, ckRead xs ys size b k = some x → x.length ≤ 100 := by
  obtain ⟨h1, h3, _⟩ := h
  intro x e
  by_cases hb : b = true
  · rw [ckRead, if_pos hb] at e
    by_cases hx : k ∈ xs
    · rw [if_pos hx] at e; exact nomatch e
    · rw [if_neg hx] at e; exact some_len (sp_len1 h1 h3) e
  · rw [ckRead, if_neg hb] at e
    by_cases hs : size < k
    · rw [if_pos hs] at e; exact some_len (sp_len2 h1 h3) e
    · rw [if_neg hs] at e
      by_cases hy : k ∈ ys
      · rw [if_pos hy] at e; exact nomatch e
      · rw [if_neg hy] at e; exact some_len (sp_len1 h1 h3) e
theorem ckWrite_len {xs ys : List Int} {size : Int} {b : Bool} {k : Int} (h : RgOk b k) : ∀ x, (ckWrite xs ys size b k).c = some x → x.length ≤ 100 := by
  obtain ⟨h1, h3, _⟩ := h
  intro x e
  by_cases hb : b = true
  · rw [ckWrite, if_pos hb] at e; exact nomatch e
  · rw [ckWrite, if_neg hb] at e
    by_cases hs : size < k
    · rw [if_pos hs] at e; exact some_len (sp_len3 h1 h3) e
    · rw [if_neg hs] at e; exact nomatch e
theorem ckArg_len {xs : List Int} {n : Int} {f : Str} (hf : f.length ≤ 100) : (ckArg xs n f).length ≤ 100 := by
  have e1 : (spB 1).length ≤ 100 := by decide +kernel
  have e2 : (spB 2).length ≤ 100 := by decide +kernel
  unfold ckArg
  split
  · refine cpl_len ?_ e2
    split
    · exact cpl_len hf e1
    · exact hf
  · split
    · exact cpl_len hf e1
    · exact hf
theorem ckTurn_len {c : CkS} {i : Ins} (hi : InsOk i) (hf : c.fault.length ≤ 100) : (ckTurn c i).fault.length ≤ 100 := by
  have lv : (ckLeave c).length ≤ 100 := by
    unfold ckLeave; split
    · exact cpl_len hf (by decide +kernel)
    · exact hf
  unfold ckTurn
  split
  · exact cpl_len hf (by decide +kernel)
  · cases i with
    | gvar b k j => exact cpo_len (cpo_len hf (ckRead_len hi.2)) (ckWrite_len hi.1)
    | gval b k j => exact cpo_len (cpo_len hf (ckRead_len hi.2)) (ckRead_len hi.1)
    | pval b k j =>
      have h1 := cpo_len hf (ckRead_len (xs := c.xs) (ys := c.ys) (size := c.size) hi.1)
      have h2 := cpo_len h1 (ckWrite_len (xs := c.xs) (ys := c.ys) (size := c.size) hi.2)
      exact h2
    | pvar b k j =>
      have h1 := cpo_len hf (ckWrite_len (xs := c.xs) (ys := c.ys) (size := c.size) hi.1)
      have h2 := cpo_len h1 (ckWrite_len (xs := (ckWrite c.xs c.ys c.size b k).xs) (ys := (ckWrite c.xs c.ys c.size b k).ys) (size := c.size) hi.2)
      exact h2
    | gcon j => exact cpo_len hf (ckRead_len hi)
    | pcon j => exact cpo_len hf (ckWrite_len hi)
    | alloc n => simp only [ckStep]; split <;> first | exact cpl_len hf (by decide +kernel) | exact hf
    | dea => simp only [ckStep]; split <;> first | exact cpl_len hf (by decide +kernel) | exact hf
    | call i n =>
      simp only [ckStep, ckCall]
      have := ckArg_len (xs := c.xs) (n := i) hf
      split
      · exact cpl_len this (by decide +kernel)
      · split
        · exact cpl_len this (by decide +kernel)
        · exact this
    | exec i => exact ckArg_len lv
    | pro => exact lv
    | blt i => exact ckArg_len hf
    | lev b k => exact cpo_len hf (ckWrite_len hi)
    | cut b k => exact cpo_len hf (ckRead_len hi)
    | fail => exact hf
    | neck => exact hf
theorem put_mem {xs : List Int} {k a : Int} (h : a ∈ put xs k) : a ∈ xs ∨ a = k := by
  unfold put at h
  split at h
  · exact .inl h
  · simpa using h
theorem put_ys {ys : List Int} {k : Int} (h : YsOk ys) (hk : k = 1 ∨ k = 2) : YsOk (put ys k) := by
  refine ⟨?_, fun a ha => ?_⟩
  · unfold put
    split
    · exact h.1
    · rename_i hn
      rw [List.nodup_append]
      exact ⟨h.1, by simp, fun a ha b hb e => hn (by rw [List.mem_singleton.mp hb] at e; exact e ▸ ha)⟩
  · rcases put_mem ha with ha | rfl
    · exact h.2 a ha
    · exact hk
theorem ckWrite_ys {xs ys : List Int} {size : Int} {b : Bool} {k : Int} (h : YsOk ys) (hk : RgOk b k) : YsOk (ckWrite xs ys size b k).ys := by
  obtain ⟨h1, h3, h2⟩ := hk
  unfold ckWrite
  split
  · exact h
  · rename_i hb
    have hb' : b = false := by simpa using hb
    have := h2 hb'
    split
    · exact h
    · exact put_ys h (by omega)
structure CkOk (c : CkS) (j : Nat) : Prop where
  size : -1 ≤ c.size ∧ c.size ≤ 3
  ys : YsOk c.ys
  lx : c.xs.length ≤ 3 + 2 * j
  ly : c.ys.length ≤ 2 * j
theorem CkOk.turn {c : CkS} {j : Nat} {i : Ins} (h : CkOk c j) (hi : InsOk i) : CkOk (ckTurn c i) (j + 1) := by
  obtain ⟨hs, hy, lx, ly⟩ := h
  unfold ckTurn
  split
  · exact ⟨hs, hy, by show c.xs.length ≤ _; omega, by show c.ys.length ≤ _; omega⟩
  · have wx := @wrx_len c.xs c.ys c.size
    have wy := @wry_len c.xs c.ys c.size
    cases i with
    | gvar b k j' => exact ⟨hs, ckWrite_ys hy hi.1, Nat.le_trans (@wx b k) (by omega), Nat.le_trans (@wy b k) (by omega)⟩
    | gval b k j' => exact ⟨hs, hy, Nat.le_trans lx (by omega), Nat.le_trans ly (by omega)⟩
    | pval b k j' => exact ⟨hs, ckWrite_ys hy hi.2, Nat.le_trans (@wx true j') (by omega), Nat.le_trans (@wy true j') (by omega)⟩
    | pvar b k j' =>
      refine ⟨hs, ckWrite_ys (ckWrite_ys hy hi.1) hi.2, ?_, ?_⟩
      · refine Nat.le_trans wrx_len ?_
        have := @wx b k
        omega
      · refine Nat.le_trans wry_len ?_
        have := @wy b k
        omega
    | gcon j' => exact ⟨hs, hy, Nat.le_trans lx (by omega), Nat.le_trans ly (by omega)⟩
    | pcon j' => exact ⟨hs, ckWrite_ys hy hi, Nat.le_trans (@wx true j') (by omega), Nat.le_trans (@wy true j') (by omega)⟩
    | alloc n => exact ⟨by have := hi.1; have := hi.2; show -1 ≤ n ∧ n ≤ 3; omega, hy, Nat.le_trans lx (by omega), Nat.le_trans ly (by omega)⟩
    | dea => exact ⟨by show (-1 : Int) ≤ -1 ∧ (-1 : Int) ≤ 3; omega, ⟨List.nodup_nil, fun _ q => nomatch q⟩, Nat.le_trans lx (by omega), Nat.zero_le _⟩
    | call i n => exact ⟨hs, ⟨hy.1.filter _, fun a ha => hy.2 a (List.mem_filter.mp ha).1⟩, Nat.zero_le _, Nat.le_trans (List.length_filter_le _ _) (by omega)⟩
    | exec i => exact ⟨hs, hy, Nat.le_trans lx (by omega), Nat.le_trans ly (by omega)⟩
    | pro => exact ⟨hs, hy, Nat.le_trans lx (by omega), Nat.le_trans ly (by omega)⟩
    | blt i => exact ⟨hs, hy, Nat.le_trans lx (by omega), Nat.le_trans ly (by omega)⟩
    | lev b k => exact ⟨hs, ckWrite_ys hy hi, Nat.le_trans (@wx b k) (by omega), Nat.le_trans (@wy b k) (by omega)⟩
    | cut b k => exact ⟨hs, hy, Nat.le_trans lx (by omega), Nat.le_trans ly (by omega)⟩
    | fail => exact ⟨hs, hy, Nat.le_trans lx (by omega), Nat.le_trans ly (by omega)⟩
    | neck => exact ⟨hs, hy, Nat.le_trans lx (by omega), Nat.le_trans ly (by omega)⟩
end
section
variable {w : World} {A A₀ : Around} {base g : Heap} {outer : List Env} {env : Env} {s : Shared} {p : Program} {loose : List Str} {mean : ExcName → Option Value} {mg mb : Str → Option Value}
  {R : Result → Shared → Prop} {Q E : Value → Shared → Prop} {L : Addr} {m : Str → Option Value} {news : List (Addr × Obj)}
theorem ckinit_use {S : Addr} {n : Int} {tn : Tok} (B : Below A₀ base outer g) (F : Fr g L s.heap m) (N : News g L s.heap news) (C : Wd w base p loose mean mg mb)
    (hh : A.handled = none) (hA : A.frames = some (env :: outer)) (hf : env.frame = some L) (hke : env.scope.kind = .function) (X : (hd0.heap_1_39 w.params).In g) (hd : A.depth ≤ 558) (hu : A.units ≤ 1590) (hn : 0 ≤ n ∧ n < 4)
    (z : ∀ T t1 t5 x dx X Y oX oY h' tk', Fr g L h' m → News g L h' ([(x, instObj 337 dx), (dx, ckO w T S X Y (-1) false (Str.ofString "") t1 t5), (X, oX), (Y, oY)] ++ news) → Dist x dx X Y → (∀ q ∈ news, q.1 < dx ∧ q.1 < x ∧ q.1 ≠ X ∧ q.1 ≠ Y) →
      oX.IsDictOf (intKind PP w) (tr (xs0 n)) → oY.IsDictOf (intKind PP w) (tr []) → (X == sysModules) = false → (Y == sysModules) = false → Q (.ref x) { s with heap := h', toks := tk' }) :
    wpAny (MM w) A (call (.ref 337) [.ref S, .int n tn]) Q E s := by
  refine' call_cls F X N ?k4 ?k5 ?k6 ?_
  case k4 => k_is
  case k5 => k_is
  case k6 => k_is
  intro x dx h₁ F₁ N₁ l1 l2
  have hne : @Ne Nat x dx := Ne.symm (Nat.ne_of_lt l2)
  have N2 : News g L h₁ [(x, instObj 337 dx), (dx, dictOf [] 0)] := newsSub N₁ fun p hp => by
    rcases List.mem_cons.mp hp with rfl | hp
    · exact .head _
    · rw [List.mem_singleton.mp hp]; exact .tail _ (.head _)
  have hun : (A.under (Code.builtin "type.__call__" ⟨[Value.ref 337, Value.ref S, Value.int n tn], []⟩)).units ≤ 1600 := by
    show A.units + _ ≤ 1600
    have : (Code.builtin "type.__call__" ⟨[Value.ref 337, Value.ref S, Value.int n tn], []⟩).cUnits ≤ 10 := Nat.le_of_ble_eq_true rfl
    omega
  refine ckinit_spec (S := S) (n := n) (tn := tn) (Rdy.nest (A := A.under (Code.builtin "type.__call__" ⟨[Value.ref 337, Value.ref S, Value.int n tn], []⟩)) B F₁ N2 hh hA hf hke) C ?a3 hun hne hn ?_
  case a3 => show A.depth + 1 ≤ 560; omega
  intro T t1 t5 X Y oX oY h' tk' hK e1 e2 e3 e4 e5 e6 e7 e8 e9 e10
  have N3 : News g L h₁ [(dx, dictOf [] 0)] := newsSub N2 fun p hp => .tail _ hp
  have hp1 := (N₁ _ (.head _)).1
  have hp2 := (N₁ _ (.tail _ (.head _))).1
  have nx : x ≠ X := fun q => by rw [← q, hp1] at e6; cases e6
  have ny : x ≠ Y := fun q => by rw [← q, hp1] at e7; cases e7
  have mx : dx ≠ X := fun q => by rw [← q, hp2] at e6; cases e6
  have my : dx ≠ Y := fun q => by rw [← q, hp2] at e7; cases e7
  refine ⟨rfl, z T t1 t5 x dx X Y oX oY h' tk' (frAfter F₁ N3 hK) ?_ ⟨hne, nx, ny, mx, my, e8⟩ ?_ e4 e5 e9 e10⟩
  · refine allA ?_ fun q hq => ?_
    · refine allC ?_ (allC ?_ (allC ?_ (allC ?_ (allE))))
      · exact ⟨hK _ _ hp1 (by simpa using hne), (N₁ _ (.head _)).2⟩
      · exact ⟨e1, (N₁ _ (.tail _ (.head _))).2⟩
      · exact ⟨e2, newNe F₁ e6, newNone F₁ e6⟩
      · exact ⟨e3, newNe F₁ e7, newNone F₁ e7⟩
    · have hq' := N₁ q (.tail _ (.tail _ hq))
      exact ⟨hK _ _ hq'.1 (by simpa using Nat.ne_of_lt (l1 q hq)), hq'.2⟩
  · intro q hq
    have hq' := (N₁ q (.tail _ (.tail _ hq))).1
    exact ⟨l1 q hq, Nat.lt_trans (l1 q hq) l2, fun e => (by rw [e, e6] at hq'; cases hq'), fun e => (by rw [e, e7] at hq'; cases hq')⟩
theorem sub4 {a b c d : Addr × Obj} {l : List (Addr × Obj)} (h1 : a ∈ l) (h2 : b ∈ l) (h3 : c ∈ l) (h4 : d ∈ l) : ∀ p ∈ [a, b, c, d], p.1 ∈ ([] : List Addr) ∨ p ∈ l := by
  refine allC ?_ (allC ?_ (allC ?_ (allC ?_ (allE))))
  · exact .inr h1
  · exact .inr h2
  · exact .inr h3
  · exact .inr h4
theorem dig16_len {k : Int} (h1 : 0 ≤ k) (h2 : k ≤ 16) : (Str.ofString (toString k)).length ≤ 100 := by
  have key : ∀ n : Fin 17, (Str.ofString (toString ((n.val : Nat) : Int))).length ≤ 100 := by decide +kernel
  obtain ⟨n, rfl⟩ := Int.eq_ofNat_of_zero_le h1
  exact key ⟨n, Nat.lt_succ_of_le (Int.ofNat_le.mp h2)⟩
theorem hI3 {dx X Y I tb il : Addr} {o1 o2 o3 : Obj} (h : ∀ q ∈ [(tb, o1), (il, o2), (I, o3)], q.1 ∉ [dx, X, Y]) : (∀ q ∈ [(tb, o1), (il, o2)], q.1 ∉ [dx, X, Y]) ∧ (I ≠ dx ∧ I ≠ X ∧ I ≠ Y) := by
  refine ⟨fun q hq => h q ?_, ?_⟩
  · simp only [List.mem_cons, List.not_mem_nil, or_false] at hq ⊢
    rcases hq with rfl | rfl <;> simp
  · have := h (I, o3) (by simp)
    simpa using this
theorem hrest3 {dx X Y I tb il : Addr} {o1 o2 o3 : Obj} (h : ∀ q ∈ [(tb, o1), (il, o2)], q.1 ∉ [dx, X, Y]) (hI : I ≠ dx ∧ I ≠ X ∧ I ≠ Y) : ∀ q ∈ [(tb, o1), (il, o2), (I, o3)], q.1 ∉ [dx, X, Y] := by
  refine allC ?_ (allC ?_ (allC ?_ (allE)))
  · exact h _ (.head _)
  · exact h _ (.tail _ (.head _))
  · simp [hI]
theorem offI {x dx X Y X0 Y0 S dS lf tb il I : Addr} {o1 o2 o3 o4 o5 o6 o7 o8 o9 p2 p3 p4 : Obj} (hI : I ≠ dx ∧ I ≠ X ∧ I ≠ Y) (lI : ∀ q ∈ [(x, o1), (dx, p2), (X0, p3), (Y0, p4), (S, o5), (dS, o6), (lf, o7)] ++ [(tb, o8), (il, o9)], q.1 < I) :
    ∀ q ∈ [(x, o1), (dx, o2), (X, o3), (Y, o4), (S, o5), (dS, o6), (lf, o7), (tb, o8), (il, o9)], q.1 ≠ I :=
  offC (Nat.ne_of_lt (lI (x, o1) (.head _))) (offC (Ne.symm hI.1) (offC (Ne.symm hI.2.1) (offC (Ne.symm hI.2.2) (offC (Nat.ne_of_lt (lI (S, o5) (memK 4 rfl))) (offC (Nat.ne_of_lt (lI (dS, o6) (memK 5 rfl))) (offC (Nat.ne_of_lt (lI (lf, o7) (memK 6 rfl))) (offC (Nat.ne_of_lt (lI (tb, o8) (memK 7 rfl))) (offC (Nat.ne_of_lt (lI (il, o9) (memK 8 rfl))) offE))))))))
theorem CkOk.weak {c : CkS} {j : Nat} (h : CkOk c j) : CkOk c (j + 1) := ⟨h.size, h.ys, Nat.le_trans h.lx (by omega), Nat.le_trans h.ly (by omega)⟩
inductive RunI (w : World) (S dS : Addr) (V : SyT) (lt dn lf df il tb x dx I : Addr) (T : CkT) (ot : Obj) (fv iv : List Value) (nF nI : Nat) (is : List Ins) (n : Int) (tn : Tok) (i : Nat) (m' : Str → Option Value) (news' : List (Addr × Obj)) : Prop where
  | mk (c : CkS) (dead : Bool) (pv : Option Value) (X Y : Addr) (oX oY : Obj) (t1 t5 : Tok) (em : m' = (fun y => if y = Str.ofString "dead" then some (.bool dead) else if y = Str.ofString "place" then pv else if y = Str.ofString "checker" then some (.ref x) else if y = Str.ofString "table" then some (.ref tb) else List.lookup y [(Str.ofString "symbols", .ref S), (Str.ofString "arity", .int n tn), (Str.ofString "instrs", .ref il)].reverse))
      (en : news' = ([(x, instObj 337 dx), (dx, ckO w T S X Y c.size c.ended c.fault t1 t5), (X, oX), (Y, oY), (S, instObj 155 dS), (dS, syO w V lt dn lf df), (lf, listOf fv.toArray nF)] ++ [(tb, ot), (il, listOf iv.toArray nI)])) (hD : Dist x dx X Y) (hE : DistS dx X Y S dS lf)
      (hX : oX.IsDictOf (intKind PP w) (tr c.xs)) (hY : oY.IsDictOf (intKind PP w) (tr c.ys)) (lX : (X == sysModules) = false) (lY : (Y == sysModules) = false) (hrest : ∀ q ∈ [(tb, ot), (il, listOf iv.toArray nI)], q.1 ∉ [dx, X, Y]) (hI : I ≠ dx ∧ I ≠ X ∧ I ≠ Y) (hft : c.fault = Str.ofString "") (hok : CkOk c i)
      (hloop : ckLoop is.length i (is.drop i) c dead = ckLoop is.length 0 is (ck0 n) false)
end
local macro_rules | `(tactic| walk_at "subscriptTail") => `(tactic| ((fail_if_success (fail_if_success (with_reducible show wpAny _ _ (subscriptTail _ _ (Value.ref _) (Value.int (0 + _) _)) _ _ _))); refine list_item (by assumption) (by k_mem) (by omega) (by omega) (by assumption) ?_))
section
variable {w : World} {A A₀ : Around} {base g : Heap} {outer : List Env} {env : Env} {s : Shared} {p : Program} {loose : List Str} {mean : ExcName → Option Value} {mg mb : Str → Option Value}
  {R : Result → Shared → Prop} {Q E : Value → Shared → Prop} {L : Addr} {m : Str → Option Value} {news : List (Addr × Obj)}
theorem seqIndex_zero (n : Nat) : seqIndex? 0 (n + 1) = some 0 := by simp [seqIndex?]; try omega
set_option maxHeartbeats 0 in
theorem ckrun_spec {S dS lt dn lf df il : Addr} {V : SyT} {fv iv : List Value} {nF nI : Nat} {is : List Ins} {n : Int} {tn : Tok}
    (D : Rdy A base outer s.heap [(S, instObj 155 dS), (dS, syO w V lt dn lf df), (lf, listOf fv.toArray nF), (il, listOf iv.toArray nI)]) (C : Wd w base p loose mean mg mb) (hd : A.depth ≤ 550) (hu : A.units ≤ 1500)
    (hF : Fun3 s.heap fv) (hrows : RowsAre s.heap iv is) (hlen : is.length ≤ 16) (hn : 0 ≤ n ∧ n < 4) (nt : NT s.heap [S, dS, lf, il])
    (z : ∀ t' h' tk', Keeps [] s.heap h' → R (.ok (.ret (.str (ckLoop is.length 0 is (ck0 n) false) t'))) { s with heap := h', toks := tk' }) :
    codeAny (MM w) A (.call (.ref 348) ⟨[.ref S, .int n tn, .ref il], []⟩) R s := by
  refine' enter 550 1500 (binds := [(Str.ofString "symbols", .ref S), (Str.ofString "arity", .int n tn), (Str.ofString "instrs", .ref il)]) D C.X C.T hd hu ?k6 ?k7 ?k8 ?k9 ?kB ?_ ?c2 ?c3 ?c4 ?c5
  walk_at "my enter"
  intro g L h₁ tk eL hg hgs F N l1 B X' T' env1
  have at0 := D.at_
  clear D
  k_lt l1
  have hF := hF.keep hg nt
  have hrows := hrows.keep hg nt
  (repeat' (walk_at "my step"))
  refine shapes_use B (by assumption) (by assumption) C rfl rfl rfl rfl (Nat.le_of_ble_eq_true rfl) (Nat.le_of_ble_eq_true rfl) ?_
  intro tb ot kvs h' tk' F' N' ne ltb hot hsh
  try dsimp only
  replace ne := allNe_of ne
  simp only [AllNe, and_true] at ne
  k_sweep
  (repeat' (walk_at "my step"))
  refine ckinit_use (by assumption) (by assumption) (by assumption) C rfl rfl rfl rfl (by assumption) (Nat.le_of_ble_eq_true rfl) (Nat.le_of_ble_eq_true rfl) hn ?_
  intro T t1 t5 x dx X Y oX oY h' tk' F' N' hD hlt hX hY lX lY
  try dsimp only
  try dsimp only [List.cons_append, List.nil_append] at N'
  k_sweep
  (repeat' (walk_at "my step"))
  have hsz : ((iv.toArray.size : Nat) : Int) = (is.length : Int) := by rw [List.size_toArray, hrows.length]
  refine kun_lenL (News.isList (by assumption) (by k_mem)) hsz (by omega) ?_
  walk_at "my step"
  refine range1_rows (by assumption) (by assumption) ?_
  intro hr tkr r1 r2 r3 hR FR NR upR
  try dsimp only
  k_sweep
  have hrs : Builtin.Range.rangeSize 0 (is.length : Int) 1 = ((is.length : Nat) : Int) := by rw [rangeSize_nat]; omega
  have hsm : Builtin.Range.small 0 (is.length : Int) 1 = true := by
    exact small_one (by omega) (by omega) (by omega) (by omega)
  have zz : ∀ x t' h' tk', x = ckLoop is.length 0 is (ck0 n) false → Keeps [] s.heap h' → R (.ok (.ret (.str x t'))) { s with heap := h', toks := tk' } := fun x t' h' tk' e => e ▸ z t' h' tk'
  have hrest0 : ∀ q ∈ [(tb, ot), (il, listOf iv.toArray nI)], q.1 ∉ [dx, X, Y] := by
    intro q hq
    have hl : q.1 < dx ∧ q.1 < x ∧ q.1 ≠ X ∧ q.1 ≠ Y := hlt q (by
      rcases List.mem_cons.mp hq with rfl | hq
      · k_mem
      · rw [List.mem_singleton.mp hq]; k_mem)
    simp only [List.mem_cons, List.not_mem_nil, or_false, not_or]
    exact ⟨Nat.ne_of_lt hl.1, hl.2.2.1, hl.2.2.2⟩
  have lS := hlt (S, _) (by k_mem)
  have ldS := hlt (dS, _) (by k_mem)
  have llf := hlt (lf, _) (by k_mem)
  have hE : DistS dx X Y S dS lf := ⟨⟨Nat.ne_of_lt lS.1, Nat.ne_of_lt ldS.1, Nat.ne_of_lt llf.1, lS.2.2.1, ldS.2.2.1, llf.2.2.1, lS.2.2.2, ldS.2.2.2, llf.2.2.2⟩, Ne.symm (Nat.ne_of_lt lS.1), Ne.symm (Nat.ne_of_lt ldS.1), Ne.symm (Nat.ne_of_lt llf.1), Ne.symm lS.2.2.1, Ne.symm ldS.2.2.1, Ne.symm llf.2.2.1, Ne.symm lS.2.2.2, Ne.symm ldS.2.2.2, Ne.symm llf.2.2.2⟩
  have NR' : News g L hr ([(x, instObj 337 dx), (dx, ckO w T S X Y (-1) false (Str.ofString "") t1 t5), (X, oX), (Y, oY), (S, instObj 155 dS), (dS, syO w V lt dn lf df), (lf, listOf fv.toArray nF)] ++ [(tb, ot), (il, listOf iv.toArray nI)]) := newsSub NR (by
    intro q hq
    revert q
    refine allC ?_ (allC ?_ (allC ?_ (allC ?_ (allC ?_ (allC ?_ (allC ?_ (allC ?_ (allC ?_ (allE))))))))) <;> k_mem)
  refine iter_rangeUnr rfl hR hsm hrs FR NR' ?_
  intro I lI
  refine rangeInv (RunI w S dS V lt dn lf df il tb x dx I T ot fv iv nF nI is n tn) ?_ ?_ is.length 0 _ _ (by omega) ?_
  · rintro i m' news' hin ⟨c, dead, pv, X, Y, oX, oY, t1, t5, rfl, rfl, hD, hE, hX, hY, lX, lY, hrest, hI, hft, hok, hloop⟩ tp hp tkp FP NP
    obtain ⟨r, hat, hri, hiok⟩ := hrows.at hin
    have hat' : iv[((0 : Int) + (i : Int)).toNat]? = some (.ref r) := by rw [show ((0 : Int) + (i : Int)).toNat = i by omega]; exact hat
    obtain ⟨word, tw, wrest, hword, hfail⟩ := hri.word
    have htup := tup_of hword
    rw [List.drop_eq_getElem_cons hin] at hloop
    generalize is[i] = ins at *
    obtain ⟨⟨⟨d1, d2, d3, d4, d5, d6⟩, e1, e2, e3, e4, e5, e6⟩, f0⟩ := And.intro hD.both trivial
    simp only [List.cons_append, List.nil_append] at NP
    obtain ⟨⟨f1, f2, f3, f4, f5, f6, f7, f8, f9⟩, f11, f12, f13, f14, f15, f16, f17, f18, f19⟩ := id hE
    have g1 : @Ne Nat I dx := hI.1
    have g2 : @Ne Nat dx I := Ne.symm hI.1
    have g3 : @Ne Nat tb dx := fun q => hrest (tb, ot) (.head _) (by rw [show (tb, ot).1 = dx from q]; exact .head _)
    have g4 : @Ne Nat il dx := fun q => hrest (il, _) (.tail _ (.head _)) (by rw [show (il, W.listOf iv.toArray nI).1 = dx from q]; exact .head _)
    have g5 : @Ne Nat dx tb := Ne.symm g3
    have g6 : @Ne Nat dx il := Ne.symm g4
    (repeat' (first | ((fail_if_success (fail_if_success (with_reducible show wpAny _ _ (subscriptTail _ _ (Value.ref _) (Value.int (0 + _) _)) _ _ _))); refine list_item (by assumption) (by k_mem) (by omega) (by omega) (by assumption) ?_; (try dsimp only)) | ((fail_if_success (with_reducible show UnrEnd _ _ _ _ _ _ _)); (fail_if_success (with_reducible show UnrPost _ _ _ _ _ _ _ _ _)); (fail_if_success (with_reducible show wpAny _ _ (call (Value.builtin "len") [Value.ref _]) _ _ _)); (fail_if_success (with_reducible show wpAny _ _ (subscriptTail _ _ (Value.ref _) (Value.int 0 _)) _ _ _)); walk_at "my step") | (((fail_if_success (fail_if_success (with_reducible show wpAny _ _ (call (Value.ref 257) _) _ _ _))); refine' complain_use (by assumption) (by assumption) (by assumption) (by assumption) rfl rfl rfl rfl (Nat.le_of_ble_eq_true rfl) (Nat.le_of_ble_eq_true rfl) (by k_mem) (by assumption) ?hU ?_; (case hU => (intro _; k_upd)); intro t'_m h'_m tk'_m F'_m N'_m; (try dsimp only at N'_m); (try dsimp only); (try k_sweep)))))
    refine row_use (H := g) (i := ins) (ot := ot) (kvs := kvs) (by assumption) (by assumption) (by assumption) C rfl rfl rfl rfl (Nat.le_of_ble_eq_true rfl) (Nat.le_of_ble_eq_true rfl) (by k_mem) hot ltb hsh hri hiok (stay1 (by assumption)) ?_
    intro h' tk' F' N'
    try dsimp only
    k_sweep
    cases dead
    · obtain ⟨xs, ys, size, ended, fault⟩ := c
      dsimp only at *
      subst hft
      cases ended
      · --<A
        (repeat' (first | ((fail_if_success (fail_if_success (with_reducible show wpAny _ _ (subscriptTail _ _ (Value.ref _) (Value.int (0 + _) _)) _ _ _))); refine list_item (by assumption) (by k_mem) (by omega) (by omega) (by assumption) ?_; (try dsimp only)) | ((fail_if_success (with_reducible show UnrEnd _ _ _ _ _ _ _)); (fail_if_success (with_reducible show UnrPost _ _ _ _ _ _ _ _ _)); (fail_if_success (with_reducible show wpAny _ _ (call (Value.builtin "len") [Value.ref _]) _ _ _)); (fail_if_success (with_reducible show wpAny _ _ (subscriptTail _ _ (Value.ref _) (Value.int 0 _)) _ _ _)); walk_at "my step") | (((fail_if_success (fail_if_success (with_reducible show wpAny _ _ (call (Value.ref 257) _) _ _ _))); refine' complain_use (by assumption) (by assumption) (by assumption) (by assumption) rfl rfl rfl rfl (Nat.le_of_ble_eq_true rfl) (Nat.le_of_ble_eq_true rfl) (by k_mem) (by assumption) ?hU ?_; (case hU => (intro _; k_upd)); intro t'_m h'_m tk'_m F'_m N'_m; (try dsimp only at N'_m); (try dsimp only); (try k_sweep)))))
        rename News _ _ _ _ => NN
        have N7 := newsSub (news' := [(x, instObj 337 dx), (dx, ckO w T S X Y size false (Str.ofString "") t1 t5), (X, oX), (Y, oY), (S, instObj 155 dS), (dS, syO w V lt dn lf df), (lf, listOf fv.toArray nF)] ++ [(tb, ot), (il, listOf iv.toArray nI), (I, itR (0 + ((i + 1 : Nat) : Int)) ((is.length : Int) - ((i + 1 : Nat) : Int)))]) NN (by
          intro q hq
          revert q
          refine allC ?_ (allC ?_ (allC ?_ (allC ?_ (allC ?_ (allC ?_ (allC ?_ (allC ?_ (allC ?_ (allC ?_ (allE)))))))))) <;> k_mem)
        refine step_use (H := g) (c := ⟨xs, ys, size, false, Str.ofString ""⟩) (i := ins) B (by assumption) N7 C rfl rfl rfl rfl (Nat.le_of_ble_eq_true rfl) (Nat.le_of_ble_eq_true rfl) hD hE hX hY (Nat.le_trans hok.lx (by omega)) (Nat.le_trans hok.ly (by omega)) hok.ys lX lY hF hri (stay1 (by assumption)) hiok hok.size (hrest3 hrest hI) ?_
        intro t1' t5' h' tk' X' Y' oX' oY' F' N' hX' hY' hD' hE' lX' lY' hrest'
        try dsimp only
        simp only [List.cons_append, List.nil_append] at N'
        clear N7
        k_sweep
        have hl := ckTurn_len (c := ⟨xs, ys, size, false, Str.ofString ""⟩) hiok (Nat.zero_le _)
        rw [show ckTurn ⟨xs, ys, size, false, Str.ofString ""⟩ ins = ckStep ⟨xs, ys, size, false, Str.ofString ""⟩ ins from rfl] at hl
        have hok' := hok.turn hiok
        rw [show ckTurn ⟨xs, ys, size, false, Str.ofString ""⟩ ins = ckStep ⟨xs, ys, size, false, Str.ofString ""⟩ ins from rfl] at hok'
        rw [ckLoop, if_neg Bool.false_ne_true, show ckTurn ⟨xs, ys, size, false, Str.ofString ""⟩ ins = ckStep ⟨xs, ys, size, false, Str.ofString ""⟩ ins from rfl] at hloop
        generalize ckStep ⟨xs, ys, size, false, Str.ofString ""⟩ ins = c' at *
        have hl3 : c'.fault.length ≤ 100 := hl
        (repeat' (first | ((fail_if_success (fail_if_success (with_reducible show wpAny _ _ (subscriptTail _ _ (Value.ref _) (Value.int (0 + _) _)) _ _ _))); refine list_item (by assumption) (by k_mem) (by omega) (by omega) (by assumption) ?_; (try dsimp only)) | ((fail_if_success (with_reducible show UnrEnd _ _ _ _ _ _ _)); (fail_if_success (with_reducible show UnrPost _ _ _ _ _ _ _ _ _)); (fail_if_success (with_reducible show wpAny _ _ (call (Value.builtin "len") [Value.ref _]) _ _ _)); (fail_if_success (with_reducible show wpAny _ _ (subscriptTail _ _ (Value.ref _) (Value.int 0 _)) _ _ _)); walk_at "my step") | (((fail_if_success (fail_if_success (with_reducible show wpAny _ _ (call (Value.ref 257) _) _ _ _))); refine' complain_use (by assumption) (by assumption) (by assumption) (by assumption) rfl rfl rfl rfl (Nat.le_of_ble_eq_true rfl) (Nat.le_of_ble_eq_true rfl) (by k_mem) (by assumption) ?hU ?_; (case hU => (intro _; k_upd)); intro t'_m h'_m tk'_m F'_m N'_m; (try dsimp only at N'_m); (try dsimp only); (try k_sweep)))))
        · show R _ _
          refine zz _ _ _ _ ?_ (keepsM at0 hg (by assumption) (by assumption) [] ?_)
          · rw [← hloop, if_neg (bne_ne (by assumption))]
            simp only [dig, Int.zero_add]
          · exact sub4 (by k_mem) (by k_mem) (by k_mem) (by k_mem)
        · refine item_tupleT (j := 0) (x := .str word tw) (Fr.tup (by assumption) htup) (by decide) (by decide) (seqIndex_zero _) rfl ?_
          (repeat' (first | ((fail_if_success (fail_if_success (with_reducible show wpAny _ _ (subscriptTail _ _ (Value.ref _) (Value.int (0 + _) _)) _ _ _))); refine list_item (by assumption) (by k_mem) (by omega) (by omega) (by assumption) ?_; (try dsimp only)) | ((fail_if_success (with_reducible show UnrEnd _ _ _ _ _ _ _)); (fail_if_success (with_reducible show UnrPost _ _ _ _ _ _ _ _ _)); (fail_if_success (with_reducible show wpAny _ _ (call (Value.builtin "len") [Value.ref _]) _ _ _)); (fail_if_success (with_reducible show wpAny _ _ (subscriptTail _ _ (Value.ref _) (Value.int 0 _)) _ _ _)); walk_at "my step") | (((fail_if_success (fail_if_success (with_reducible show wpAny _ _ (call (Value.ref 257) _) _ _ _))); refine' complain_use (by assumption) (by assumption) (by assumption) (by assumption) rfl rfl rfl rfl (Nat.le_of_ble_eq_true rfl) (Nat.le_of_ble_eq_true rfl) (by k_mem) (by assumption) ?hU ?_; (case hU => (intro _; k_upd)); intro t'_m h'_m tk'_m F'_m N'_m; (try dsimp only at N'_m); (try dsimp only); (try k_sweep)))))
          have hfe := bne_eq (show (c'.fault != Str.ofString "") = false by assumption)
          rw [if_pos hfe] at hloop
          refine UnrEnd.intro (by assumption) (by assumption) [(x, instObj 337 dx), (dx, ckO w T S X' Y' c'.size c'.ended c'.fault t1' t5'), (X', oX'), (Y', oY'), (S, instObj 155 dS), (dS, syO w V lt dn lf df), (lf, listOf fv.toArray nF), (tb, ot), (il, listOf iv.toArray nI)] ?sub ?off ?inv
          case sub =>
            refine allC ?_ (allC ?_ (allC ?_ (allC ?_ (allC ?_ (allC ?_ (allC ?_ (allC ?_ (allC ?_ (allC ?_ (allE)))))))))) <;> k_mem
          case off => exact offI (hI3 hrest').2 lI
          case inv =>
            refine ⟨c', isFail ins, some (.int (0 + (i : Int)) tp), X', Y', oX', oY', t1', t5', ?_, rfl, hD', hE', hX', hY', lX', lY', (hI3 hrest').1, (hI3 hrest').2, hfe, hok', hloop⟩
            rw [← hfail]
            funext y
            by_cases h1 : y = Str.ofString "dead"
            · subst h1; exact rfl
            · by_cases h2 : y = Str.ofString "place"
              · subst h2; exact rfl
              · simp [h1, h2]
      · --<B
        repeat' (first | ((fail_if_success (with_reducible show UnrEnd _ _ _ _ _ _ _)); (fail_if_success (with_reducible show UnrPost _ _ _ _ _ _ _ _ _)); walk_at "my step"))
        refine complain_use (by assumption) (by assumption) (by assumption) (by assumption) rfl rfl rfl rfl (Nat.le_of_ble_eq_true rfl) (Nat.le_of_ble_eq_true rfl) (by k_mem) (by assumption) (by intro _; k_upd) ?_
        intro t5' h' tk' F' N'
        try dsimp only at N'
        try dsimp only
        k_sweep
        have hl := ckTurn_len (c := ⟨xs, ys, size, true, Str.ofString ""⟩) hiok (Nat.zero_le _)
        have hok' := hok.turn hiok
        rw [ckLoop, if_neg Bool.false_ne_true] at hloop
        rw [show ckTurn ⟨xs, ys, size, true, Str.ofString ""⟩ ins = ⟨xs, ys, size, true, cpl (Str.ofString "") (Str.ofString "code behind the end")⟩ from rfl] at hl hok' hloop
        generalize cpl (Str.ofString "") (Str.ofString "code behind the end") = fc at *
        have hl3 : fc.length ≤ 100 := hl
        (repeat' (first | ((fail_if_success (fail_if_success (with_reducible show wpAny _ _ (subscriptTail _ _ (Value.ref _) (Value.int (0 + _) _)) _ _ _))); refine list_item (by assumption) (by k_mem) (by omega) (by omega) (by assumption) ?_; (try dsimp only)) | ((fail_if_success (with_reducible show UnrEnd _ _ _ _ _ _ _)); (fail_if_success (with_reducible show UnrPost _ _ _ _ _ _ _ _ _)); (fail_if_success (with_reducible show wpAny _ _ (call (Value.builtin "len") [Value.ref _]) _ _ _)); (fail_if_success (with_reducible show wpAny _ _ (subscriptTail _ _ (Value.ref _) (Value.int 0 _)) _ _ _)); walk_at "my step") | (((fail_if_success (fail_if_success (with_reducible show wpAny _ _ (call (Value.ref 257) _) _ _ _))); refine' complain_use (by assumption) (by assumption) (by assumption) (by assumption) rfl rfl rfl rfl (Nat.le_of_ble_eq_true rfl) (Nat.le_of_ble_eq_true rfl) (by k_mem) (by assumption) ?hU ?_; (case hU => (intro _; k_upd)); intro t'_m h'_m tk'_m F'_m N'_m; (try dsimp only at N'_m); (try dsimp only); (try k_sweep)))))
        · show R _ _
          refine zz _ _ _ _ ?_ (keepsM at0 hg (by assumption) (by assumption) [] ?_)
          · rw [← hloop, if_neg (bne_ne (by assumption))]
            simp only [dig, Int.zero_add]
          · exact sub4 (by k_mem) (by k_mem) (by k_mem) (by k_mem)
        · refine item_tupleT (j := 0) (x := .str word tw) (Fr.tup (by assumption) htup) (by decide) (by decide) (seqIndex_zero _) rfl ?_
          (repeat' (first | ((fail_if_success (fail_if_success (with_reducible show wpAny _ _ (subscriptTail _ _ (Value.ref _) (Value.int (0 + _) _)) _ _ _))); refine list_item (by assumption) (by k_mem) (by omega) (by omega) (by assumption) ?_; (try dsimp only)) | ((fail_if_success (with_reducible show UnrEnd _ _ _ _ _ _ _)); (fail_if_success (with_reducible show UnrPost _ _ _ _ _ _ _ _ _)); (fail_if_success (with_reducible show wpAny _ _ (call (Value.builtin "len") [Value.ref _]) _ _ _)); (fail_if_success (with_reducible show wpAny _ _ (subscriptTail _ _ (Value.ref _) (Value.int 0 _)) _ _ _)); walk_at "my step") | (((fail_if_success (fail_if_success (with_reducible show wpAny _ _ (call (Value.ref 257) _) _ _ _))); refine' complain_use (by assumption) (by assumption) (by assumption) (by assumption) rfl rfl rfl rfl (Nat.le_of_ble_eq_true rfl) (Nat.le_of_ble_eq_true rfl) (by k_mem) (by assumption) ?hU ?_; (case hU => (intro _; k_upd)); intro t'_m h'_m tk'_m F'_m N'_m; (try dsimp only at N'_m); (try dsimp only); (try k_sweep)))))
          have hfe := bne_eq (show (fc != Str.ofString "") = false by assumption)
          rw [if_pos hfe] at hloop
          refine UnrEnd.intro (by assumption) (by assumption) [(x, instObj 337 dx), (dx, ckO w T S X Y size true fc t1 t5'), (X, oX), (Y, oY), (S, instObj 155 dS), (dS, syO w V lt dn lf df), (lf, listOf fv.toArray nF), (tb, ot), (il, listOf iv.toArray nI)] ?sub ?off ?inv
          case sub =>
            refine allC ?_ (allC ?_ (allC ?_ (allC ?_ (allC ?_ (allC ?_ (allC ?_ (allC ?_ (allC ?_ (allC ?_ (allE)))))))))) <;> k_mem
          case off => exact offI hI lI
          case inv =>
            refine ⟨⟨xs, ys, size, true, fc⟩, isFail ins, some (.int (0 + (i : Int)) tp), X, Y, oX, oY, t1, t5', ?_, rfl, hD, hE, hX, hY, lX, lY, hrest, hI, hfe, hok', hloop⟩
            rw [← hfail]
            funext y
            by_cases h1 : y = Str.ofString "dead"
            · subst h1; exact rfl
            · by_cases h2 : y = Str.ofString "place"
              · subst h2; exact rfl
              · simp [h1, h2]
    · --<C
      (repeat' (first | ((fail_if_success (fail_if_success (with_reducible show wpAny _ _ (subscriptTail _ _ (Value.ref _) (Value.int (0 + _) _)) _ _ _))); refine list_item (by assumption) (by k_mem) (by omega) (by omega) (by assumption) ?_; (try dsimp only)) | ((fail_if_success (with_reducible show UnrEnd _ _ _ _ _ _ _)); (fail_if_success (with_reducible show UnrPost _ _ _ _ _ _ _ _ _)); (fail_if_success (with_reducible show wpAny _ _ (call (Value.builtin "len") [Value.ref _]) _ _ _)); (fail_if_success (with_reducible show wpAny _ _ (subscriptTail _ _ (Value.ref _) (Value.int 0 _)) _ _ _)); walk_at "my step") | (((fail_if_success (fail_if_success (with_reducible show wpAny _ _ (call (Value.ref 257) _) _ _ _))); refine' complain_use (by assumption) (by assumption) (by assumption) (by assumption) rfl rfl rfl rfl (Nat.le_of_ble_eq_true rfl) (Nat.le_of_ble_eq_true rfl) (by k_mem) (by assumption) ?hU ?_; (case hU => (intro _; k_upd)); intro t'_m h'_m tk'_m F'_m N'_m; (try dsimp only at N'_m); (try dsimp only); (try k_sweep)))))
      refine UnrEnd.intro (by assumption) (by assumption) [(x, instObj 337 dx), (dx, ckO w T S X Y c.size c.ended c.fault t1 t5), (X, oX), (Y, oY), (S, instObj 155 dS), (dS, syO w V lt dn lf df), (lf, listOf fv.toArray nF), (tb, ot), (il, listOf iv.toArray nI)] ?sub ?off ?inv
      case sub =>
        refine allC ?_ (allC ?_ (allC ?_ (allC ?_ (allC ?_ (allC ?_ (allC ?_ (allC ?_ (allC ?_ (allC ?_ (allE)))))))))) <;> k_mem
      case off => exact offI hI lI
      case inv =>
        rw [ckLoop, if_pos rfl] at hloop
        refine ⟨c, true, some (.int (0 + (i : Int)) tp), X, Y, oX, oY, t1, t5, ?_, rfl, hD, hE, hX, hY, lX, lY, hrest, hI, hft, hok.weak, hloop⟩
        funext y
        by_cases h1 : y = Str.ofString "dead"
        · subst h1; exact rfl
        · by_cases h2 : y = Str.ofString "place"
          · subst h2; exact rfl
          · simp [h1, h2]
  · --<D
    rintro m' news' ⟨c, dead, pv, X, Y, oX, oY, t1, t5, rfl, rfl, hD, hE, hX, hY, lX, lY, hrest, hI, hft, hok, hloop⟩ hp tkp FP NP
    simp only [List.cons_append, List.nil_append] at NP
    rw [List.drop_eq_nil_of_le (Nat.le_refl _)] at hloop
    obtain ⟨xs, ys, size, ended, fault⟩ := c
    dsimp only at *
    have hdn : (Str.ofString (toString ((is.length : Nat) : Int))).length ≤ 100 := dig16_len (by omega) (by omega)
    cases ended
    · (repeat' (first | ((fail_if_success (fail_if_success (with_reducible show wpAny _ _ (subscriptTail _ _ (Value.ref _) (Value.int (0 + _) _)) _ _ _))); refine list_item (by assumption) (by k_mem) (by omega) (by omega) (by assumption) ?_; (try dsimp only)) | ((fail_if_success (with_reducible show UnrEnd _ _ _ _ _ _ _)); (fail_if_success (with_reducible show UnrPost _ _ _ _ _ _ _ _ _)); (fail_if_success (with_reducible show wpAny _ _ (call (Value.builtin "len") [Value.ref _]) _ _ _)); (fail_if_success (with_reducible show wpAny _ _ (subscriptTail _ _ (Value.ref _) (Value.int 0 _)) _ _ _)); walk_at "my step") | (((fail_if_success (fail_if_success (with_reducible show wpAny _ _ (call (Value.ref 257) _) _ _ _))); refine' complain_use (by assumption) (by assumption) (by assumption) (by assumption) rfl rfl rfl rfl (Nat.le_of_ble_eq_true rfl) (Nat.le_of_ble_eq_true rfl) (by k_mem) (by assumption) ?hU ?_; (case hU => (intro _; k_upd)); intro t'_m h'_m tk'_m F'_m N'_m; (try dsimp only at N'_m); (try dsimp only); (try k_sweep)))))
      refine kun_lenL (News.isList (by assumption) (by k_mem)) hsz (by omega) ?_
      (repeat' (first | ((fail_if_success (fail_if_success (with_reducible show wpAny _ _ (subscriptTail _ _ (Value.ref _) (Value.int (0 + _) _)) _ _ _))); refine list_item (by assumption) (by k_mem) (by omega) (by omega) (by assumption) ?_; (try dsimp only)) | ((fail_if_success (with_reducible show UnrEnd _ _ _ _ _ _ _)); (fail_if_success (with_reducible show UnrPost _ _ _ _ _ _ _ _ _)); (fail_if_success (with_reducible show wpAny _ _ (call (Value.builtin "len") [Value.ref _]) _ _ _)); (fail_if_success (with_reducible show wpAny _ _ (subscriptTail _ _ (Value.ref _) (Value.int 0 _)) _ _ _)); walk_at "my step") | (((fail_if_success (fail_if_success (with_reducible show wpAny _ _ (call (Value.ref 257) _) _ _ _))); refine' complain_use (by assumption) (by assumption) (by assumption) (by assumption) rfl rfl rfl rfl (Nat.le_of_ble_eq_true rfl) (Nat.le_of_ble_eq_true rfl) (by k_mem) (by assumption) ?hU ?_; (case hU => (intro _; k_upd)); intro t'_m h'_m tk'_m F'_m N'_m; (try dsimp only at N'_m); (try dsimp only); (try k_sweep)))))
      refine zz _ _ _ _ ?_ (keepsM at0 hg (by assumption) (by assumption) [] ?_)
      · rw [← hloop, ckLoop, if_neg Bool.false_ne_true]; rfl
      · exact sub4 (by k_mem) (by k_mem) (by k_mem) (by k_mem)
    · (repeat' (first | ((fail_if_success (fail_if_success (with_reducible show wpAny _ _ (subscriptTail _ _ (Value.ref _) (Value.int (0 + _) _)) _ _ _))); refine list_item (by assumption) (by k_mem) (by omega) (by omega) (by assumption) ?_; (try dsimp only)) | ((fail_if_success (with_reducible show UnrEnd _ _ _ _ _ _ _)); (fail_if_success (with_reducible show UnrPost _ _ _ _ _ _ _ _ _)); (fail_if_success (with_reducible show wpAny _ _ (call (Value.builtin "len") [Value.ref _]) _ _ _)); (fail_if_success (with_reducible show wpAny _ _ (subscriptTail _ _ (Value.ref _) (Value.int 0 _)) _ _ _)); walk_at "my step") | (((fail_if_success (fail_if_success (with_reducible show wpAny _ _ (call (Value.ref 257) _) _ _ _))); refine' complain_use (by assumption) (by assumption) (by assumption) (by assumption) rfl rfl rfl rfl (Nat.le_of_ble_eq_true rfl) (Nat.le_of_ble_eq_true rfl) (by k_mem) (by assumption) ?hU ?_; (case hU => (intro _; k_upd)); intro t'_m h'_m tk'_m F'_m N'_m; (try dsimp only at N'_m); (try dsimp only); (try k_sweep)))))
      refine zz _ _ _ _ ?_ (keepsM at0 hg (by assumption) (by assumption) [] ?_)
      · rw [← hloop, ckLoop, if_pos rfl]
      · exact sub4 (by k_mem) (by k_mem) (by k_mem) (by k_mem)
  · refine ⟨ck0 n, false, none, X, Y, oX, oY, t1, t5, ?_, rfl, hD, hE, hX, hY, lX, lY, hrest0, ?_, rfl, ?_, rfl⟩
    · funext y
      by_cases h1 : y = Str.ofString "dead"
      · simp [h1]
      · by_cases h2 : y = Str.ofString "place"
        · subst h2; exact rfl
        · simp [h1, h2]
    · refine ⟨Ne.symm (Nat.ne_of_lt (lI (dx, ckO w T S X Y (-1) false (Str.ofString "") t1 t5) (by k_mem))), Ne.symm (Nat.ne_of_lt (lI (X, oX) (by k_mem))), Ne.symm (Nat.ne_of_lt (lI (Y, oY) (by k_mem)))⟩
    · exact ⟨by show (-1 : Int) ≤ -1 ∧ (-1 : Int) ≤ 3; omega, ⟨List.nodup_nil, fun _ q => nomatch q⟩, by show (xs0 n).length ≤ _; unfold xs0; split <;> (try split) <;> (try split) <;> decide, Nat.le_refl _⟩
end
end
section
variable {w : World} {A A₀ : Around} {base g : Heap} {outer : List Env} {env : Env} {s : Shared} {p : Program} {loose : List Str} {mean : ExcName → Option Value} {mg mb : Str → Option Value}
  {R : Result → Shared → Prop} {Q E : Value → Shared → Prop} {L : Addr} {m : Str → Option Value} {news : List (Addr × Obj)}
/-- the numbers of the texts, from i on -/
inductive NumAre : Nat → List Str → List (Str × Value) → Prop
  | nil {i : Nat} : NumAre i [] []
  | cons {i : Nat} {x : Str} {t : Tok} {xs : List Str} {kvs : List (Str × Value)} : NumAre (i + 1) xs kvs → NumAre i (x :: xs) ((x, .int (i : Int) t) :: kvs)
theorem NumAre.length {i : Nat} {xs : List Str} {kvs : List (Str × Value)} (h : NumAre i xs kvs) : kvs.length = xs.length := by
  induction h with
  | nil => rfl
  | cons _ ih => simp [ih]
theorem NumAre.snoc {i : Nat} {xs : List Str} {kvs : List (Str × Value)} (h : NumAre i xs kvs) (x : Str) (t : Tok) : NumAre i (xs ++ [x]) (kvs ++ [(x, .int ((i + xs.length : Nat) : Int) t)]) := by
  induction h with
  | nil => exact .cons .nil
  | @cons i y t' xs kvs _ ih =>
    have e : i + 1 + xs.length = i + (y :: xs).length := by rw [List.length_cons]; omega
    rw [e] at ih
    exact .cons ih
theorem NumAre.none {i : Nat} {xs : List Str} {kvs : List (Str × Value)} (h : NumAre i xs kvs) {x : Str} (hx : x ∉ xs) : valueAt kvs x = Option.none := by
  induction h with
  | nil => rfl
  | @cons i y t xs kvs _ ih =>
    have h1 : ¬ y = x := fun e => hx (e ▸ List.mem_cons_self ..)
    have := ih fun q => hx (List.mem_cons_of_mem _ q)
    simpa [valueAt, h1] using this
theorem NumAre.some {i : Nat} {xs : List Str} {kvs : List (Str × Value)} (h : NumAre i xs kvs) {x : Str} (hx : x ∈ xs) : ∃ t, valueAt kvs x = Option.some (.int ((i + xs.idxOf x : Nat) : Int) t) := by
  induction h with
  | nil => cases hx
  | @cons i y t xs kvs _ ih =>
    by_cases e : y = x
    · subst e
      exact ⟨t, by simp [valueAt]⟩
    · rcases List.mem_cons.mp hx with q | q
      · exact absurd q.symm e
      · obtain ⟨t', h'⟩ := ih q
        refine ⟨t', ?_⟩
        have e2 : i + (y :: xs).idxOf x = i + 1 + xs.idxOf x := by
          have e3 : (y == x) = false := by simpa using e
          rw [List.idxOf_cons, e3]; simp only [cond_false]; omega
        rw [e2]
        simpa [valueAt, e] using h'
theorem NumAre.keys {i : Nat} {xs : List Str} {kvs : List (Str × Value)} (h : NumAre i xs kvs) : kvs.map (·.1) = xs := by
  induction h with
  | nil => rfl
  | cons _ ih => simp [ih]
def addT (xs : List Str) (x : Str) : List Str := if x ∈ xs then xs else xs ++ [x]
theorem stored_new {kvs : List (Str × Value)} {x : Str} {v : Value} (h : x ∉ kvs.map (·.1)) : stored kvs x v = kvs ++ [(x, v)] := by
  unfold stored
  rw [if_neg]
  rw [List.any_eq_true]
  rintro ⟨kv, hkv, he⟩
  exact h (List.mem_map.mpr ⟨kv, hkv, of_decide_eq_true he⟩)
end
local macro_rules | `(tactic| walk_at "call builtin:dict.get") => `(tactic| ((fail_if_success (fail_if_success (with_reducible show wpAny _ _ (call (Value.builtin "dict.get") [Value.ref _, Value.str _ _, _]) _ _ _))); refine kdg_get2 (knd := PySem.strKind _ _) (by assumption) (by k_mem) (by assumption) (by assumption) (strKind_is _ _ _ _) _ (by assumption) ?_; (try dsimp only [Option.getD])))
local macro_rules | `(tactic| walk_at "setItem ref str") => `(tactic| (refine' kda_set (knd := PySem.strKind _ _) ?F ?N ?U ?d (strKind_is _ _ _ _) ?z ?_; (case F => k_asm); (case N => k_asm); (case U => k_updF); (case d => k_asm); (case z => assumption); intro h' o' F' N' hd'; (try dsimp only at N')))
section
variable {w : World} {A A₀ : Around} {base g : Heap} {outer : List Env} {env : Env} {s : Shared} {p : Program} {loose : List Str} {mean : ExcName → Option Value} {mg mb : Str → Option Value}
  {R : Result → Shared → Prop} {Q E : Value → Shared → Prop} {L : Addr} {m : Str → Option Value} {news : List (Addr × Obj)}
theorem atom_spec {S dS lt dn lf df : Addr} {V : SyT} {texts : List Str} {tv : List Value} {nT : Nat} {on : Obj} {kn : List (Str × Value)} {x : Str} {tx : Tok}
    (D : Rdy A base outer s.heap [(S, instObj 155 dS), (dS, syO w V lt dn lf df), (lt, listOf tv.toArray nT), (dn, on)]) (C : Wd w base p loose mean mg mb) (hd : A.depth ≤ 580) (hu : A.units ≤ 1800)
    (hon : on.IsDictOf (strKind PP w) kn) (ldn : (dn == sysModules) = false) (hK : NumAre 0 texts kn) (htv : tv.length = texts.length) (hlen : texts.length ≤ 90) (hne : @Ne Nat lt dn ∧ @Ne Nat lt S ∧ @Ne Nat lt dS ∧ @Ne Nat dn S ∧ @Ne Nat dn dS)
    (z : ∀ t' h' tk' on' kn' tv' nT', on'.IsDictOf (strKind PP w) kn' → NumAre 0 (addT texts x) kn' → (tv' : List Value).length = (addT texts x).length → Keeps [lt, dn] s.heap h' → h'.get? lt = some (listOf tv'.toArray nT') → h'.get? dn = some on' → R (.ok (.ret (.int ((texts.idxOf x : Nat) : Int) t'))) { s with heap := h', toks := tk' }) :
    codeAny (MM w) A (.call (.ref 89) ⟨[.ref S, .str x tx], []⟩) R s := by
  refine' enter 580 1800 (binds := [(Str.ofString "self", .ref S), (Str.ofString "text", .str x tx)]) D C.X C.T hd hu ?k6 ?k7 ?k8 ?k9 ?kB ?_ ?c2 ?c3 ?c4 ?c5
  walk_at "my enter"
  intro g L h₁ tk eL hg hgs F N l1 B X' T' env1
  have at0 := D.at_
  clear D
  k_lt l1
  obtain ⟨d1, d2, d3, d4, d5⟩ := hne
  have d1' : @Ne Nat dn lt := d1.symm
  have d2' : @Ne Nat S lt := d2.symm
  have d3' : @Ne Nat dS lt := d3.symm
  have d4' : @Ne Nat S dn := d4.symm
  have d5' : @Ne Nat dS dn := d5.symm
  have hkz : kn.length ≤ sizeLine := by rw [hK.length, sizeLine_eq]; omega
  have htl : tv.length ≤ 100 := by omega
  by_cases hx : x ∈ texts
  · obtain ⟨tn, hval⟩ := hK.some hx
    rw [Nat.zero_add] at hval
    (repeat' (walk_at "my step"))
    refine z _ _ _ on kn tv nT hon ?_ ?_ (keepsM at0 hg (by assumption) (by assumption) [lt, dn] ?_) (News.get (by assumption) (by k_mem)) (News.get (by assumption) (by k_mem))
    · rw [addT, if_pos hx]; exact hK
    · rw [addT, if_pos hx]; exact htv
    · refine allC ?_ (allC ?_ (allC ?_ (allC ?_ (allE))))
      · exact .inr (by k_mem)
      · exact .inr (by k_mem)
      · exact .inl (.head _)
      · exact .inl (.tail _ (.head _))
  · have hval := hK.none hx
    (repeat' (walk_at "my step"))
    refine kun_lenL (k := (texts.length : Int)) (News.isList (by assumption) (by k_mem)) (by rw [List.size_toArray, htv]) (by omega) ?_
    (repeat' (walk_at "my step"))
    rename Obj.IsDictOf (PySem.strKind _ _) _ (stored _ _ _) => hst
    rw [stored_new (by rw [hK.keys]; exact hx)] at hst
    rw [List.idxOf_eq_length hx] at z
    refine z _ _ _ _ _ (tv ++ [.str x tx]) (nT + 1) hst ?_ ?_ (keepsM at0 hg (by assumption) (by assumption) [lt, dn] ?_) ?_ (News.get (by assumption) (by k_mem))
    · rw [addT, if_neg hx]
      have := hK.snoc x
      rw [Nat.zero_add] at this
      exact this _
    · rw [addT, if_neg hx, List.length_append, List.length_append, htv]; rfl
    · refine allC ?_ (allC ?_ (allC ?_ (allC ?_ (allE))))
      · exact .inr (by k_mem)
      · exact .inr (by k_mem)
      · exact .inl (.head _)
      · exact .inl (.tail _ (.head _))
    · rw [← List.push_toArray]; exact News.get (by assumption) (by k_mem)
end
section
variable {w : World} {A A₀ : Around} {base g : Heap} {outer : List Env} {env : Env} {s : Shared} {p : Program} {loose : List Str} {mean : ExcName → Option Value} {mg mb : Str → Option Value}
  {R : Result → Shared → Prop} {Q E : Value → Shared → Prop} {L : Addr} {m : Str → Option Value} {news : List (Addr × Obj)}
abbrev TK (w : World) := tupleKind (intKind PP w)
abbrev FKeys := List (List Int × Addr × Value)
/-- a dict whose keys are tuples of ints, as an object -/
def TDict (w : World) (o : Obj) (xs : FKeys) : Prop := ∃ es ep, o.ExactDict ∧ o.data = .dict es ep ∧ es.toList = xs.map (entryOfKey (TK w)) ∧ (xs.map (·.1)).Nodup
def KeysAt (w : World) (h : Heap) (xs : FKeys) : Prop := ∀ x ∈ xs, IsTupleKey (intKind PP w) h x.1 x.2.1
theorem tdict_at {h : Heap} {d : Addr} {o : Obj} {xs : FKeys} (ho : h.get? d = some o) (hx : TDict w o xs) (hk : KeysAt w h xs) : h.DictOfH (TK w) d xs := by
  obtain ⟨es, ep, a, b, c, e⟩ := hx
  exact ⟨o, es, ep, ho, a, b, c, hk, e⟩
theorem KeysAt.keep {h h' : Heap} {xs : FKeys} {as : List Addr} (x : KeysAt w h xs) (hK : Keeps as h h') (n : NT h as) : KeysAt w h' xs := fun y hy => by
  obtain ⟨o, items, k, ho, hc, r⟩ := x y hy
  exact ⟨o, items, k, hK _ _ ho fun q => n _ q _ ho hc, hc, r⟩
theorem KeysAt.up {h h' : Heap} {xs : FKeys} (x : KeysAt w h xs) (hS : ∀ b o, h.get? b = some o → h'.get? b = some o) : KeysAt w h' xs := x.keep (up_keep hS) nt_nil
theorem h_method {d : Addr} {xs : FKeys} {pl : Sem Bool} {Q : Value × List Value → Shared → Prop} (hd : s.heap.DictOfH (TK w) d xs) (h : Q (.builtin "dict.get", [.ref d]) s) : wpAny (MM w) A (getMethod (.ref d) (Str.ofString "get") pl) Q E s :=
  getMethod_builtin hd.typeIs PySem.F.plainAttrs_dict PySem.F.slot_dict_get (by kernel_rfl) (dictOfH_noDict hd) h
theorem h_get {d a : Addr} {xs : FKeys} {ks : List Int} {dflt : Value} (hu : A.units + 1 < cLine) (ldf : (d == sysModules) = false) (hd : s.heap.DictOfH (TK w) d xs) (hkey : IsTupleKey (intKind PP w) s.heap ks a) (hnew : ks ∉ xs.map (·.1))
    (h : ∀ tk, Q dflt { s with toks := tk }) : wpAny (MM w) A (call (.builtin "dict.get") [.ref d, .ref a, dflt]) Q E s := by
  have hn : atKey xs ks = none := by
    rw [atKey, Option.map_eq_none_iff, List.find?_eq_none]
    intro x hx e
    exact hnew (List.mem_map.mpr ⟨x, hx, of_decide_eq_true e⟩)
  refine call_meetsIn PySem.F.slot_dict_get hd.typeIs PySem.F.entry_dict_get (PySem.F.args_dict_get_3 _ _ _) (meetsH_dict_get_default (TK w) d a ldf dflt) ⟨hu, ks, xs, hkey, hd, ?_⟩
  rw [hn]
  exact h _
theorem h_set {d a : Addr} {o : Obj} {xs : FKeys} {ks : List Int} {v : Value} {nf : Obj → List (Addr × Obj)} {Q : Unit → Shared → Prop} (hu : A.units + 1 < cLine) (F : Fr g L s.heap m) (N : News g L s.heap news) (U : UpdF d o news nf) (ho : TDict w o xs) (hk : KeysAt w s.heap xs) (hkey : IsTupleKey (intKind PP w) s.heap ks a) (hnew : ks ∉ xs.map (·.1)) (hsz : xs.length ≤ sizeLine)
    (h : ∀ h' o' tk, Fr g L h' m → News g L h' (nf o') → TDict w o' (xs ++ [(ks, a, v)]) → Q () { s with heap := h', toks := tk }) : wpAny (MM w) A (setItem (.ref d) (.ref a) v) Q E s := by
  obtain ⟨pre, post, rfl, hg, b1, b2⟩ := U.split
  have hm := N (d, o) (List.mem_append_right _ (.head _))
  have hn : atKey xs ks = none := by
    rw [atKey, Option.map_eq_none_iff, List.find?_eq_none]
    intro x hx e
    exact hnew (List.mem_map.mpr ⟨x, hx, of_decide_eq_true e⟩)
  refine wpAny_setItem_heap (hsz := hsz) (k := ks) hu hkey (tdict_at hm.1 ho hk) fun h' hmm hs => ?_
  rw [storedH_new hn] at hmm
  obtain ⟨o', es, ep, e1, e2, e3, e4, e5, e6⟩ := hmm
  exact h h' o' _ (F.change hs hm.2.1 hm.2.2) (hg o' ▸ N.setIn b1 b2 hs e1) ⟨es, ep, e2, e3, e4, e6⟩
theorem tkey {h : Heap} {r : Addr} {a n : Int} {t u : Tok} (e : h.get? r = some (tupO [.int a t, .int n u])) : IsTupleKey (intKind PP w) h [a, n] r := ⟨_, _, _, e, rfl, rfl, .cons (intKind_is _ _ _ _) (.cons (intKind_is _ _ _ _) .nil)⟩
end
local macro_rules | `(tactic| walk_at "getMethod ref") => `(tactic| ((fail_if_success (fail_if_success (with_reducible show wpAny _ _ (getMethod (Value.ref _) (Str.ofString "get") _) _ _ _))); refine h_method (tdict_at (News.get (by assumption) (by k_mem)) (by assumption) (KeysAt.up (by assumption) (by (first | exact stay1 (by assumption) | exact stay2 (by assumption) (by assumption) | exact stay3 (by assumption) (by assumption) (by assumption))))) ?_))
local macro_rules | `(tactic| walk_at "call builtin:dict.get") => `(tactic| ((fail_if_success (fail_if_success (with_reducible show wpAny _ _ (call (Value.builtin "dict.get") [Value.ref _, Value.ref _, _]) _ _ _))); refine h_get (Nat.le_of_ble_eq_true rfl) (by assumption) (tdict_at (News.get (by assumption) (by k_mem)) (by assumption) (KeysAt.up (by assumption) (by (first | exact stay1 (by assumption) | exact stay2 (by assumption) (by assumption) | exact stay3 (by assumption) (by assumption) (by assumption))))) (tkey (News.get (by assumption) (by k_mem))) (by assumption) ?_; intro _))
local macro_rules | `(tactic| walk_at "setItem ref ref") => `(tactic| (refine' h_set (Nat.le_of_ble_eq_true rfl) ?F ?N ?U ?d (KeysAt.up (by assumption) (by (first | exact stay1 (by assumption) | exact stay2 (by assumption) (by assumption) | exact stay3 (by assumption) (by assumption) (by assumption)))) (tkey (News.get (by assumption) (by k_mem))) (by assumption) (by assumption) ?_; (case F => k_asm); (case N => k_asm); (case U => k_updF); (case d => assumption); intro h' o' tk' F' N' hd'; (try dsimp only at N')))
section
variable {w : World} {A A₀ : Around} {base g : Heap} {outer : List Env} {env : Env} {s : Shared} {p : Program} {loose : List Str} {mean : ExcName → Option Value} {mg mb : Str → Option Value}
  {R : Result → Shared → Prop} {Q E : Value → Shared → Prop} {L : Addr} {m : Str → Option Value} {news : List (Addr × Obj)}
theorem notIn4L {d a b c e : Nat} (h : a < d ∧ b < d ∧ c < d ∧ e < d) : d ∉ [a, b, c, e] :=
  nmC (Ne.symm (Nat.ne_of_lt h.1)) (nmC (Ne.symm (Nat.ne_of_lt h.2.1)) (nmC (Ne.symm (Nat.ne_of_lt h.2.2.1)) (nmC (Ne.symm (Nat.ne_of_lt h.2.2.2)) nmE)))
theorem functor_spec {S dS lt dn lf df : Addr} {V : SyT} {fv : List Value} {nF : Nat} {od : Obj} {xs : FKeys} {a n : Int} {ta tn : Tok}
    (D : Rdy A base outer s.heap [(S, instObj 155 dS), (dS, syO w V lt dn lf df), (lf, listOf fv.toArray nF), (df, od)]) (C : Wd w base p loose mean mg mb) (hd : A.depth ≤ 580) (hu : A.units ≤ 1800)
    (hod : TDict w od xs) (hk : KeysAt w s.heap xs) (ldf : (df == sysModules) = false) (hlen : fv.length = xs.length) (hl90 : xs.length ≤ 90) (hnew : [a, n] ∉ xs.map (·.1)) (hne : @Ne Nat lf df ∧ @Ne Nat lf S ∧ @Ne Nat lf dS ∧ @Ne Nat df S ∧ @Ne Nat df dS) (nt : NT s.heap [S, dS, lf, df])
    (z : ∀ t' r t1 t2 tv h' tk' od' nF', TDict w od' (xs ++ [([a, n], r, .int (xs.length : Int) tv)]) → Keeps [lf, df] s.heap h' → h'.get? lf = some (listOf (fv ++ [Value.ref r]).toArray nF') → h'.get? df = some od' → h'.get? r = some (tupO [.int a t1, .int n t2]) → s.heap.get? r = none →
      R (.ok (.ret (.int (xs.length : Int) t'))) { s with heap := h', toks := tk' }) :
    codeAny (MM w) A (.call (.ref 103) ⟨[.ref S, .int a ta, .int n tn], []⟩) R s := by
  refine' enter 580 1800 (binds := [(Str.ofString "self", .ref S), (Str.ofString "atom", .int a ta), (Str.ofString "arity", .int n tn)]) D C.X C.T hd hu ?k6 ?k7 ?k8 ?k9 ?kB ?_ ?c2 ?c3 ?c4 ?c5
  walk_at "my enter"
  intro g L h₁ tk eL hg hgs F N l1 B X' T' env1
  have at0 := D.at_
  clear D
  k_lt l1
  obtain ⟨d1, d2, d3, d4, d5⟩ := hne
  have d1' : @Ne Nat df lf := d1.symm
  have d2' : @Ne Nat S lf := d2.symm
  have d3' : @Ne Nat dS lf := d3.symm
  have d4' : @Ne Nat S df := d4.symm
  have d5' : @Ne Nat dS df := d5.symm
  replace hk := hk.keep hg nt
  have hxz : xs.length ≤ sizeLine := by rw [sizeLine_eq]; omega
  have hfl : fv.length ≤ 100 := by omega
  (repeat' (walk_at "my step"))
  refine kun_lenL (k := (xs.length : Int)) (News.isList (by assumption) (by k_mem)) (by rw [List.size_toArray, hlen]) (by omega) ?_
  (repeat' (walk_at "my step"))
  rename TDict _ _ (_ ++ _) => hd'
  refine z _ _ ta tn _ _ _ _ (nF + 1) hd' (keepsM at0 hg (by assumption) (by assumption) [lf, df] ?_) ?_ (News.get (by assumption) (by k_mem)) (News.get (by assumption) (by k_mem)) ?_
  · refine allC ?_ (allC ?_ (allC ?_ (allC ?_ (allE))))
    · exact .inr (by k_mem)
    · exact .inr (by k_mem)
    · exact .inl (.head _)
    · exact .inl (.tail _ (.head _))
  · rw [← List.push_toArray]; exact News.get (by assumption) (by k_mem)
  · exact freshOf hg (newNoneN (o := tupO [.int a ta, .int n tn]) (by assumption) (.head _)) (notIn4L (by assumption))
end
section
variable {w : World} {A A₀ : Around} {base g : Heap} {outer : List Env} {env : Env} {s : Shared} {p : Program} {loose : List Str} {mean : ExcName → Option Value} {mg mb : Str → Option Value}
  {R : Result → Shared → Prop} {Q E : Value → Shared → Prop} {L : Addr} {m : Str → Option Value} {news : List (Addr × Obj)}
theorem newsAfter2 {h h' : Heap} {a b : Addr} {o1 o1' o2 o2' : Obj} {n1 n2 : List (Addr × Obj)} (N : News g L h news) (U1 : Upd a o1 o1' news n1) (U2 : Upd b o2 o2' n1 n2)
    (hK : Keeps [a, b] h h') (h1 : h'.get? a = some o1') (h2 : h'.get? b = some o2') : News g L h' n2 := by
  have m1 := updMem U1
  intro p hp
  have key1 : ∀ {r : Addr × Obj}, r ∈ n1 → r.1 ≠ b → h'.get? r.1 = some r.2 ∧ r.1 ≠ L ∧ g.get? r.1 = none := by
    intro r hr rb
    rcases upd_mem U1 r hr with rfl | ⟨hr, ra⟩
    · exact ⟨h1, (N _ m1).2⟩
    · exact ⟨hK _ _ (N r hr).1 (by simp [ra, rb]), (N r hr).2⟩
  rcases upd_mem U2 p hp with rfl | ⟨hp, pb⟩
  · refine ⟨h2, ?_⟩
    rcases upd_mem U1 _ (updMem U2) with e | ⟨hr, _⟩
    · have e1 : b = a := congrArg Prod.fst e
      subst e1; exact (N _ m1).2
    · exact (N _ hr).2
  · exact key1 hp pb
theorem atom_use {S dS lt dn lf df : Addr} {V : SyT} {texts : List Str} {tv : List Value} {nT : Nat} {on : Obj} {kn : List (Str × Value)} {x : Str} {tx : Tok} {n1 : Obj → List (Addr × Obj)} {nf : Obj → Obj → List (Addr × Obj)}
    (B : Below A₀ base outer g) (F : Fr g L s.heap m) (N : News g L s.heap news) (C : Wd w base p loose mean mg mb)
    (hh : A.handled = none) (hA : A.frames = some (env :: outer)) (hf : env.frame = some L) (hke : env.scope.kind = .function) (hd : A.depth ≤ 580) (hu : A.units ≤ 1800)
    (m1 : (S, instObj 155 dS) ∈ news) (m2 : (dS, syO w V lt dn lf df) ∈ news) (U1 : ∀ a, Upd lt (listOf tv.toArray nT) a news (n1 a)) (U2 : ∀ a b, Upd dn on b (n1 a) (nf a b))
    (hon : on.IsDictOf (strKind PP w) kn) (ldn : (dn == sysModules) = false) (hK : NumAre 0 texts kn) (htv : tv.length = texts.length) (hlen : texts.length ≤ 90) (hne : @Ne Nat lt dn ∧ @Ne Nat lt S ∧ @Ne Nat lt dS ∧ @Ne Nat dn S ∧ @Ne Nat dn dS) (mdn : (dn, on) ∈ news)
    (z : ∀ t' h' tk' on' kn' tv' nT', on'.IsDictOf (strKind PP w) kn' → NumAre 0 (addT texts x) kn' → (tv' : List Value).length = (addT texts x).length → Fr g L h' m → News g L h' (nf (listOf tv'.toArray nT') on') → Q (.int ((texts.idxOf x : Nat) : Int) t') { s with heap := h', toks := tk' }) :
    wpAny (MM w) A (call (.ref 89) [.ref S, .str x tx]) Q E s := by
  have m3 := updMem (U1 (listOf tv.toArray nT))
  have N1 : News g L s.heap [(S, instObj 155 dS), (dS, syO w V lt dn lf df), (lt, listOf tv.toArray nT), (dn, on)] := newsSub N (by
    refine allC ?_ (allC ?_ (allC ?_ (allC ?_ (allE)))) <;> assumption)
  have N2 : News g L s.heap [(lt, listOf tv.toArray nT), (dn, on)] := newsSub N1 fun p hp => .tail _ (.tail _ hp)
  refine wpAny_call (atom_spec (Rdy.nest B F N1 hh hA hf hke) C hd hu hon ldn hK htv hlen hne fun t' h' tk' on' kn' tv' nT' e1 e2 e3 hK' q1 q2 => ?_)
  exact z t' h' tk' on' kn' tv' nT' e1 e2 e3 (frAfter F N2 hK') (newsAfter2 N (U1 _) (U2 _ _) hK' q1 q2)
theorem functor_use {H : Heap} {S dS lt dn lf df : Addr} {V : SyT} {fv : List Value} {nF : Nat} {od : Obj} {xs : FKeys} {a n : Int} {ta tn : Tok} {n1 : Obj → List (Addr × Obj)} {nf : Obj → Obj → List (Addr × Obj)}
    (B : Below A₀ base outer g) (F : Fr g L s.heap m) (N : News g L s.heap news) (C : Wd w base p loose mean mg mb)
    (hh : A.handled = none) (hA : A.frames = some (env :: outer)) (hf : env.frame = some L) (hke : env.scope.kind = .function) (hd : A.depth ≤ 580) (hu : A.units ≤ 1800)
    (m1 : (S, instObj 155 dS) ∈ news) (m2 : (dS, syO w V lt dn lf df) ∈ news) (U1 : ∀ a, Upd lf (listOf fv.toArray nF) a news (n1 a)) (U2 : ∀ a b, Upd df od b (n1 a) (nf a b))
    (hod : TDict w od xs) (hk : KeysAt w H xs) (hS : ∀ b o, H.get? b = some o → s.heap.get? b = some o) (ldf : (df == sysModules) = false) (hlen : fv.length = xs.length) (hl90 : xs.length ≤ 90) (hnew : [a, n] ∉ xs.map (·.1)) (hne : @Ne Nat lf df ∧ @Ne Nat lf S ∧ @Ne Nat lf dS ∧ @Ne Nat df S ∧ @Ne Nat df dS) (mdf : (df, od) ∈ news)
    (z : ∀ t' r t1 t2 tv h' tk' od' nF', TDict w od' (xs ++ [([a, n], r, .int (xs.length : Int) tv)]) → Fr g L h' m → News g L h' ((r, tupO [.int a t1, .int n t2]) :: nf (listOf (fv ++ [Value.ref r]).toArray nF') od') → (∀ p ∈ news, p.1 ≠ r) → Q (.int (xs.length : Int) t') { s with heap := h', toks := tk' }) :
    wpAny (MM w) A (call (.ref 103) [.ref S, .int a ta, .int n tn]) Q E s := by
  have m3 := updMem (U1 (listOf fv.toArray nF))
  have N1 : News g L s.heap [(S, instObj 155 dS), (dS, syO w V lt dn lf df), (lf, listOf fv.toArray nF), (df, od)] := newsSub N (by
    refine allC ?_ (allC ?_ (allC ?_ (allC ?_ (allE)))) <;> assumption)
  have N2 : News g L s.heap [(lf, listOf fv.toArray nF), (df, od)] := newsSub N1 fun p hp => .tail _ (.tail _ hp)
  have nt : NT s.heap [S, dS, lf, df] := nt_of (mods := [(S, instObj 155 dS), (dS, syO w V lt dn lf df), (lf, listOf fv.toArray nF), (df, od)]) (fun p hp => (N1 p hp).1) (by
    refine allC ?_ (allC ?_ (allC ?_ (allC ?_ (allE))))
    · exact inst_cls
    · exact dictO_cls
    · show Value.type "list" ≠ Value.type "tuple"; decide
    · obtain ⟨es, ep, hx, _⟩ := hod
      show od.cls ≠ _
      rw [hx.1]; decide)
  refine wpAny_call (functor_spec (Rdy.nest B F N1 hh hA hf hke) C hd hu hod (hk.up hS) ldf hlen hl90 hnew hne nt fun t' r t1 t2 tv h' tk' od' nF' e1 hK q1 q2 q3 q4 => ?_)
  exact z t' r t1 t2 tv h' tk' od' nF' e1 (frAfter F N2 hK) (newsCons (newsAfter2 N (U1 _) (U2 _ _) hK q1 q2) q3 (newNe F q4) (newNone F q4)) fun p hp e => by have := (N p hp).1; rw [e, q4] at this; cases this
end
section
variable {w : World} {A A₀ : Around} {base g : Heap} {outer : List Env} {env : Env} {s : Shared} {p : Program} {loose : List Str} {mean : ExcName → Option Value} {mg mb : Str → Option Value}
  {R : Result → Shared → Prop} {Q E : Value → Shared → Prop} {L : Addr} {m : Str → Option Value} {news : List (Addr × Obj)}
theorem notIn6 {r S dS lt dn lf df : Addr} {o1 o2 o3 o4 o5 o6 : Obj} {p1 p2 p3 p4 p5 p6 : Obj} (h : ∀ p ∈ [(S, o1), (dS, o2), (lt, o3), (dn, o4), (lf, o5), (df, o6)], Prod.fst p ≠ r) : r ∉ [(S, p1), (dS, p2), (lt, p3), (dn, p4), (lf, p5), (df, p6)].map (·.1) :=
  nmC (Ne.symm (h (S, o1) (memK 0 rfl))) (nmC (Ne.symm (h (dS, o2) (memK 1 rfl))) (nmC (Ne.symm (h (lt, o3) (memK 2 rfl))) (nmC (Ne.symm (h (dn, o4) (memK 3 rfl))) (nmC (Ne.symm (h (lf, o5) (memK 4 rfl))) (nmC (Ne.symm (h (df, o6) (memK 5 rfl))) nmE)))))
theorem func_spec {S dS lt dn lf df : Addr} {V : SyT} {texts : List Str} {tv fv : List Value} {nT nF : Nat} {on od : Obj} {kn : List (Str × Value)} {xs : FKeys} {x : Str} {tx tn : Tok} {n : Int}
    (D : Rdy A base outer s.heap [(S, instObj 155 dS), (dS, syO w V lt dn lf df), (lt, listOf tv.toArray nT), (dn, on), (lf, listOf fv.toArray nF), (df, od)]) (C : Wd w base p loose mean mg mb) (hd : A.depth ≤ 570) (hu : A.units ≤ 1700)
    (hon : on.IsDictOf (strKind PP w) kn) (ldn : (dn == sysModules) = false) (hK : NumAre 0 texts kn) (htv : tv.length = texts.length) (hlen : texts.length ≤ 90) (hne : @Ne Nat lt dn ∧ @Ne Nat lt S ∧ @Ne Nat lt dS ∧ @Ne Nat dn S ∧ @Ne Nat dn dS)
    (hod : TDict w od xs) (hk : KeysAt w s.heap xs) (ldf : (df == sysModules) = false) (hlf : fv.length = xs.length) (hl90 : xs.length ≤ 90) (hnew : [((texts.idxOf x : Nat) : Int), n] ∉ xs.map (·.1)) (hne2 : @Ne Nat lf df ∧ @Ne Nat lf S ∧ @Ne Nat lf dS ∧ @Ne Nat df S ∧ @Ne Nat df dS) (hne3 : @Ne Nat lt lf ∧ @Ne Nat lt df ∧ @Ne Nat dn lf ∧ @Ne Nat dn df) (nt : NT s.heap [S, dS, lt, dn, lf, df])
    (z : ∀ t' r t1 t2 tk1 h' tk' on' kn' tv' nT' od' nF', on'.IsDictOf (strKind PP w) kn' → NumAre 0 (addT texts x) kn' → (tv' : List Value).length = (addT texts x).length → TDict w od' (xs ++ [([((texts.idxOf x : Nat) : Int), n], r, .int (xs.length : Int) tk1)]) → Keeps [lt, dn, lf, df] s.heap h' →
      h'.get? lt = some (listOf tv'.toArray nT') → h'.get? dn = some on' → h'.get? lf = some (listOf (fv ++ [Value.ref r]).toArray nF') → h'.get? df = some od' → h'.get? r = some (tupO [.int ((texts.idxOf x : Nat) : Int) t1, .int n t2]) → s.heap.get? r = none → R (.ok (.ret (.int (xs.length : Int) t'))) { s with heap := h', toks := tk' }) :
    codeAny (MM w) A (.call (.ref 110) ⟨[.ref S, .str x tx, .int n tn], []⟩) R s := by
  refine' enter 570 1700 (binds := [(Str.ofString "self", .ref S), (Str.ofString "text", .str x tx), (Str.ofString "arity", .int n tn)]) D C.X C.T hd hu ?k6 ?k7 ?k8 ?k9 ?kB ?_ ?c2 ?c3 ?c4 ?c5
  walk_at "my enter"
  intro g L h₁ tk eL hg hgs F N l1 B X' T' env1
  have at0 := D.at_
  clear D
  k_lt l1
  obtain ⟨d1, d2, d3, d4, d5⟩ := id hne
  obtain ⟨d6, d7, d8, d9, d10⟩ := id hne2
  obtain ⟨d11, d12, d13, d14⟩ := hne3
  have d1' : @Ne Nat dn lt := d1.symm
  have d2' : @Ne Nat S lt := d2.symm
  have d3' : @Ne Nat dS lt := d3.symm
  have d4' : @Ne Nat S dn := d4.symm
  have d5' : @Ne Nat dS dn := d5.symm
  have d6' : @Ne Nat df lf := d6.symm
  have d7' : @Ne Nat S lf := d7.symm
  have d8' : @Ne Nat dS lf := d8.symm
  have d9' : @Ne Nat S df := d9.symm
  have d10' : @Ne Nat dS df := d10.symm
  have d11' : @Ne Nat lf lt := d11.symm
  have d12' : @Ne Nat df lt := d12.symm
  have d13' : @Ne Nat lf dn := d13.symm
  have d14' : @Ne Nat df dn := d14.symm
  replace hk := hk.keep hg nt
  repeat' (first | walk_at "my step" | (((fail_if_success (fail_if_success (with_reducible show wpAny _ _ (call (Value.ref 89) _) _ _ _))); refine atom_use (by assumption) (by assumption) (by assumption) (by assumption) rfl rfl rfl rfl (Nat.le_of_ble_eq_true rfl) (Nat.le_of_ble_eq_true rfl) (by k_mem) (by k_mem) (by intro _; k_upd) (by intro _ _; k_upd) (by assumption) (by assumption) (by assumption) (by assumption) (by assumption) (by assumption) (by k_mem) ?_; intro t'_m h'_m tk'_m on'_m kn'_m tv'_m nT'_m hon'_m hK'_m htv'_m F'_m N'_m; (try dsimp only at N'_m); (try dsimp only); (try k_sweep))) | (((fail_if_success (fail_if_success (with_reducible show wpAny _ _ (call (Value.ref 103) _) _ _ _))); refine functor_use (by assumption) (by assumption) (by assumption) (by assumption) rfl rfl rfl rfl (Nat.le_of_ble_eq_true rfl) (Nat.le_of_ble_eq_true rfl) (by k_mem) (by k_mem) (by intro _; k_upd) (by intro _ _; k_upd) (by assumption) (by assumption) (by (first | exact stay1 (by assumption) | exact stay2 (by assumption) (by assumption) | exact stay3 (by assumption) (by assumption) (by assumption))) (by assumption) (by assumption) (by assumption) (by assumption) (by assumption) (by k_mem) ?_; intro t'_m r'_m t1'_m t2'_m tv'_m h'_m tk'_m od'_m nF'_m hod'_m F'_m N'_m ne'_m; (try dsimp only at N'_m); (try dsimp only); (try k_sweep))))
  rename NumAre 0 (addT _ _) _ => hK2
  rename TDict _ _ (_ ++ _) => hod2
  rename ∀ p ∈ _, Prod.fst p ≠ _ => hne5
  refine z _ _ _ _ _ _ _ _ _ _ _ _ _ ?hon hK2 (by assumption) hod2 (keepsM at0 hg (by assumption) (by assumption) [lt, dn, lf, df] ?kp) (News.get (by assumption) (by k_mem)) (News.get (by assumption) (by k_mem)) (News.get (by assumption) (by k_mem)) (News.get (by assumption) (by k_mem)) (News.get (by assumption) (by k_mem)) ?fr
  case hon => assumption
  case kp =>
    refine allC ?_ (allC ?_ (allC ?_ (allC ?_ (allC ?_ (allC ?_ (allE))))))
    · exact .inr (by k_mem)
    · exact .inr (by k_mem)
    · exact .inl (.head _)
    · exact .inl (.tail _ (.head _))
    · exact .inl (.tail _ (.tail _ (.head _)))
    · exact .inl (.tail _ (.tail _ (.tail _ (.head _))))
  case fr => exact freshOf hg (newNoneN (o := tupO [.int _ _, .int n _]) (by assumption) (.head _)) (notIn6 hne5)
theorem func_use {S dS lt dn lf df : Addr} {V : SyT} {texts : List Str} {tv fv : List Value} {nT nF : Nat} {on od : Obj} {kn : List (Str × Value)} {xs : FKeys} {x : Str} {tx tn : Tok} {n : Int} {rest : List (Addr × Obj)}
    (B : Below A₀ base outer g) (F : Fr g L s.heap m) (N : News g L s.heap ([(S, instObj 155 dS), (dS, syO w V lt dn lf df), (lt, listOf tv.toArray nT), (dn, on), (lf, listOf fv.toArray nF), (df, od)] ++ rest)) (C : Wd w base p loose mean mg mb)
    (hh : A.handled = none) (hA : A.frames = some (env :: outer)) (hf : env.frame = some L) (hke : env.scope.kind = .function) (hd : A.depth ≤ 570) (hu : A.units ≤ 1700)
    (hon : on.IsDictOf (strKind PP w) kn) (ldn : (dn == sysModules) = false) (hK : NumAre 0 texts kn) (htv : tv.length = texts.length) (hlen : texts.length ≤ 90) (hne : @Ne Nat lt dn ∧ @Ne Nat lt S ∧ @Ne Nat lt dS ∧ @Ne Nat dn S ∧ @Ne Nat dn dS)
    (hod : TDict w od xs) (hk : KeysAt w s.heap xs) (ldf : (df == sysModules) = false) (hlf : fv.length = xs.length) (hl90 : xs.length ≤ 90) (hnew : [((texts.idxOf x : Nat) : Int), n] ∉ xs.map (·.1)) (hne2 : @Ne Nat lf df ∧ @Ne Nat lf S ∧ @Ne Nat lf dS ∧ @Ne Nat df S ∧ @Ne Nat df dS) (hne3 : @Ne Nat lt lf ∧ @Ne Nat lt df ∧ @Ne Nat dn lf ∧ @Ne Nat dn df)
    (hrest : ∀ q ∈ rest, q.1 ∉ [lt, dn, lf, df])
    (z : ∀ t' r t1 t2 tk1 h' tk' on' kn' tv' nT' od' nF', on'.IsDictOf (strKind PP w) kn' → NumAre 0 (addT texts x) kn' → (tv' : List Value).length = (addT texts x).length → TDict w od' (xs ++ [([((texts.idxOf x : Nat) : Int), n], r, .int (xs.length : Int) tk1)]) → Fr g L h' m →
      News g L h' ([(S, instObj 155 dS), (dS, syO w V lt dn lf df), (lt, listOf tv'.toArray nT'), (dn, on'), (lf, listOf (fv ++ [Value.ref r]).toArray nF'), (df, od')] ++ ((r, tupO [.int ((texts.idxOf x : Nat) : Int) t1, .int n t2]) :: rest)) →
      (∀ q ∈ (r, tupO [.int ((texts.idxOf x : Nat) : Int) t1, .int n t2]) :: rest, q.1 ∉ [lt, dn, lf, df]) → (∀ q ∈ rest, q.1 ≠ r) → Q (.int (xs.length : Int) t') { s with heap := h', toks := tk' }) :
    wpAny (MM w) A (call (.ref 110) [.ref S, .str x tx, .int n tn]) Q E s := by
  have N1 : News g L s.heap [(S, instObj 155 dS), (dS, syO w V lt dn lf df), (lt, listOf tv.toArray nT), (dn, on), (lf, listOf fv.toArray nF), (df, od)] := newsSub N fun p hp => List.mem_append_left _ hp
  have N2 : News g L s.heap [(lt, listOf tv.toArray nT), (dn, on), (lf, listOf fv.toArray nF), (df, od)] := newsSub N1 fun p hp => .tail _ (.tail _ hp)
  have nt : NT s.heap [S, dS, lt, dn, lf, df] := nt_of (mods := [(S, instObj 155 dS), (dS, syO w V lt dn lf df), (lt, listOf tv.toArray nT), (dn, on), (lf, listOf fv.toArray nF), (df, od)]) (fun p hp => (N1 p hp).1) (by
    refine allC ?_ (allC ?_ (allC ?_ (allC ?_ (allC ?_ (allC ?_ (allE))))))
    · exact inst_cls
    · exact dictO_cls
    · show Value.type "list" ≠ Value.type "tuple"; decide
    · exact dict_cls hon
    · show Value.type "list" ≠ Value.type "tuple"; decide
    · obtain ⟨es, ep, hx, _⟩ := hod
      show od.cls ≠ _
      rw [hx.1]; decide)
  refine wpAny_call (func_spec (Rdy.nest B F N1 hh hA hf hke) C hd hu hon ldn hK htv hlen hne hod hk ldf hlf hl90 hnew hne2 hne3 nt fun t' r t1 t2 tk1 h' tk' on' kn' tv' nT' od' nF' e1 e2 e3 e4 hK' q1 q2 q3 q4 q5 q6 => ?_)
  obtain ⟨⟨c1, c2, c3, c4, c5⟩, c6, c7, c8, c9, c10⟩ := And.intro hne hne2
  have kp : ∀ q ∈ ([(S, instObj 155 dS), (dS, syO w V lt dn lf df), (lt, listOf tv.toArray nT), (dn, on), (lf, listOf fv.toArray nF), (df, od)] ++ rest), q.1 ∉ [lt, dn, lf, df] → h'.get? q.1 = some q.2 ∧ q.1 ≠ L ∧ g.get? q.1 = none := fun q hq hn => ⟨hK' _ _ (N q hq).1 hn, (N q hq).2⟩
  refine z t' r t1 t2 tk1 h' tk' on' kn' tv' nT' od' nF' e1 e2 e3 e4 (frAfter F N2 hK') ?_ ?_ fun q hq e => by have := (N q (List.mem_append_right _ hq)).1; rw [e, q6] at this; cases this
  · refine allA ?_ fun q hq => ?_
    · refine allC ?_ (allC ?_ (allC ?_ (allC ?_ (allC ?_ (allC ?_ (allE))))))
      · exact kp _ (List.mem_append_left _ (.head _)) (nmC (Ne.symm c2) (nmC (Ne.symm c4) (nmC (Ne.symm c7) (nmC (Ne.symm c9) nmE))))
      · exact kp _ (List.mem_append_left _ (.tail _ (.head _))) (nmC (Ne.symm c3) (nmC (Ne.symm c5) (nmC (Ne.symm c8) (nmC (Ne.symm c10) nmE))))
      · exact ⟨q1, (N2 _ (.head _)).2⟩
      · exact ⟨q2, (N2 _ (.tail _ (.head _))).2⟩
      · exact ⟨q3, (N2 _ (.tail _ (.tail _ (.head _)))).2⟩
      · exact ⟨q4, (N2 _ (.tail _ (.tail _ (.tail _ (.head _))))).2⟩
    · rcases List.mem_cons.mp hq with rfl | hq
      · exact ⟨q5, newNe F q6, newNone F q6⟩
      · exact kp q (List.mem_append_right _ hq) (hrest q hq)
  · intro q hq
    rcases List.mem_cons.mp hq with rfl | hq
    · intro hm
      simp only [List.mem_cons, List.not_mem_nil, or_false] at hm
      have d1 := (N2 _ (.head _)).1
      have d2 := (N2 _ (.tail _ (.head _))).1
      have d3 := (N2 _ (.tail _ (.tail _ (.head _)))).1
      have d4 := (N2 _ (.tail _ (.tail _ (.tail _ (.head _))))).1
      rcases hm with e | e | e | e
      · rw [e, d1] at q6; cases q6
      · rw [e, d2] at q6; cases q6
      · rw [e, d3] at q6; cases q6
      · rw [e, d4] at q6; cases q6
    · exact hrest q hq
end
section
section
variable {prog : Program} {w : World} {A : Around} {E : Value → Shared → Prop} {s : Shared} {env : Env} {h₀ : Heap} {x : Str} {body : List Stmt} {Q : Flow → Shared → Prop}
/-- a loop over a tuple of the base by what holds between the turns -/
theorem iter_tupInv {ax : Addr} {vs : List Value} {m₀ : Str → Option Value} {news : List (Addr × Obj)} (Inv : Addr → Nat → (Str → Option Value) → List (Addr × Obj) → Prop)
    (hh : A.handled = none) (ht : h₀.IsTuple ax vs.toArray) (F : Fr h₀ env.locals s.heap m₀) (N : News h₀ env.locals s.heap news)
    (start : ∀ I : Addr, (∀ p ∈ news, p.1 < I) → Inv I 0 m₀ news)
    (hstep : ∀ I i m₁ news₁, (∀ p ∈ news, p.1 < I) → ∀ v, vs[i]? = some v → Inv I i m₁ news₁ → ∀ (it : Obj) h tk, it.cls = .type "tuple_iterator" → Fr h₀ env.locals h (fun y => if y = x then some v else m₁ y) → News h₀ env.locals h ((I, it) :: news₁) →
      wpAny (model prog w) A (execs body env) (UnrPost h₀ env.locals { s with heap := h, toks := tk } I it (Inv I (i + 1)) Q) E { s with heap := h, toks := tk })
    (hend : ∀ I m₁ news₁, (∀ p ∈ news, p.1 < I) → Inv I vs.length m₁ news₁ → ∀ h tk, Fr h₀ env.locals h m₁ → News h₀ env.locals h news₁ → Q .next { s with heap := h, toks := tk }) :
    wpAny (model prog w) A (pyIter (.ref ax)) (fun it s₂ => LoopAtV prog w A h₀ env x body Q E it s₂) E s := by
  have hts : s.heap.IsTuple ax vs.toArray := ht.at fun o e => F.keep ax o e
  obtain ⟨ox, hox, _⟩ := id ht
  have hlt : ax < h₀.objs.size := Heap.lt_size hox
  have hne : ax ≠ s.heap.objs.size := Nat.ne_of_lt (Nat.lt_trans (Nat.lt_of_lt_of_le hlt F.above) F.ns.lt)
  refine wpAny_pyIter_tuple hts ?_
  have hnI : ∀ p ∈ news, p.1 < s.heap.objs.size := fun p hp => Heap.lt_size (N p hp).1
  have W := Walks.tuple (prog := prog) (w := w) hh s.heap.objs.size ax hne vs.toArray
  have hnew := next_is_new F
  have hlen : vs.toArray.size = vs.length := by simp
  rw [hlen] at W
  refine ⟨_, _, _, vs.length, _, _, m₀, news, fun i m₁ news₁ => Inv s.heap.objs.size i m₁ news₁, rfl, W, ?_, ?_, ?_, ⟨⟨_, Heap.get?_push_size _ rfl, rfl, rfl⟩, hts.at fun o e => Heap.get?_push_of_some _ e⟩, F.push _, (fun p hp => ⟨Heap.get?_push_of_some _ (N p hp).1, (N p hp).2⟩), start _ hnI, ?_, ?_⟩
  · intro hm
    rcases List.mem_cons.mp hm with e | hm
    · exact absurd F.ns.lt (e ▸ Nat.lt_irrefl _)
    · exact absurd (Nat.lt_of_lt_of_le hlt F.above) ((List.mem_singleton.mp hm) ▸ Nat.lt_irrefl _)
  · intro b hb
    rw [List.mem_singleton.mp hb]
    exact hnew
  · intro p hp hI
    exact absurd (Heap.lt_size (N p hp).1) ((List.mem_singleton.mp hI) ▸ Nat.lt_irrefl _)
  · rintro i v m₁ news₁ s₁ own ⟨hh', tk', rfl⟩ hin hP hJ hoff hown hget hall hst F₁ N₁
    obtain ⟨it, hit, hic, hid⟩ := hst.1
    have hmemI := hall s.heap.objs.size (List.mem_cons_self ..) hnew _ hit
    have hv : vs[i]? = some v := by simpa using hP
    have N₂ : News h₀ env.locals hh' ((s.heap.objs.size, it) :: news₁) := fun p hp => by
      rcases List.mem_cons.mp hp with rfl | hp
      · exact N₁ _ (List.mem_append_left _ hmemI)
      · exact N₁ _ (List.mem_append_right _ hp)
    refine wpAny_mono (hstep _ i m₁ news₁ hnI v hv hJ it hh' tk' hic F₁ N₂) (fun f s₂ p => ?_) fun _ _ e => e
    have fin : UnrEnd h₀ env.locals { s with heap := hh', toks := tk' } s.heap.objs.size it (Inv s.heap.objs.size (i + 1)) s₂ →
        LoopStepU h₀ env.locals [s.heap.objs.size] own (Inv s.heap.objs.size (i + 1)) { s with heap := hh', toks := tk' } .next s₂ := by
      rintro ⟨h', tk, m', news', e, F', N', ho, r⟩
      refine ⟨rfl, h', tk, m', news', e, F', fun p hp => ?_, fun p hp hI => ho p hp (List.mem_singleton.mp hI), r⟩
      rcases List.mem_append.mp hp with hp | hp
      · have h2 : hh'.get? p.1 = some p.2 := hget p hp
        rcases List.mem_cons.mp (hown p hp) with h1 | h1
        · have h3 : p = (s.heap.objs.size, it) := by
            rw [h1, hit] at h2
            exact Prod.ext h1 (Option.some.inj h2).symm
          rw [h3]; exact N' _ (List.mem_cons_self ..)
        · have h1' : p.1 = ax := List.mem_singleton.mp h1
          have := (N₁ p (List.mem_append_left _ hp)).2.2
          rw [h1', hox] at this; cases this
      · exact N' _ (List.mem_cons_of_mem _ hp)
    cases f with
    | ret v => exact .ret p
    | brk => exact .brk p
    | next => exact .next (fin p)
    | cont => exact .cont (fin p)
  · rintro h' tk m' news' F' N' _ hJ
    exact hend _ m' news' hnI hJ h' tk F' N'
theorem iter_tupInvN {ax : Addr} {ot : Obj} {vs : List Value} {m₀ : Str → Option Value} {news : List (Addr × Obj)} (Inv : Addr → Nat → (Str → Option Value) → List (Addr × Obj) → Prop)
    (hh : A.handled = none) (F : Fr h₀ env.locals s.heap m₀) (N : News h₀ env.locals s.heap news) (hm : (ax, ot) ∈ news) (ht : ot = tupO vs)
    (start : ∀ I : Addr, (∀ p ∈ news, p.1 < I) → Inv I 0 m₀ news)
    (hstep : ∀ I i m₁ news₁, (∀ p ∈ news, p.1 < I) → ∀ v, vs[i]? = some v → Inv I i m₁ news₁ → ∀ (it : Obj) h tk, it.cls = .type "tuple_iterator" → Fr h₀ env.locals h (fun y => if y = x then some v else m₁ y) → News h₀ env.locals h ((I, it) :: news₁) →
      wpAny (model prog w) A (execs body env) (UnrPost h₀ env.locals { s with heap := h, toks := tk } I it (fun m' n' => (ax, ot) ∈ n' ∧ Inv I (i + 1) m' n') Q) E { s with heap := h, toks := tk })
    (hend : ∀ I m₁ news₁, (∀ p ∈ news, p.1 < I) → Inv I vs.length m₁ news₁ → ∀ h tk, Fr h₀ env.locals h m₁ → News h₀ env.locals h news₁ → Q .next { s with heap := h, toks := tk }) :
    wpAny (model prog w) A (pyIter (.ref ax)) (fun it s₂ => LoopAtV prog w A h₀ env x body Q E it s₂) E s := by
  have hax := N _ hm
  have hts : s.heap.IsTuple ax vs.toArray := by subst ht; exact ⟨_, hax.1, rfl, 0, rfl⟩
  have hlt : ax < s.heap.objs.size := Heap.lt_size hax.1
  have hne : ax ≠ s.heap.objs.size := Nat.ne_of_lt hlt
  refine wpAny_pyIter_tuple hts ?_
  have hnI : ∀ p ∈ news, p.1 < s.heap.objs.size := fun p hp => Heap.lt_size (N p hp).1
  have W := Walks.tuple (prog := prog) (w := w) hh s.heap.objs.size ax hne vs.toArray
  have hnew := next_is_new F
  have hlen : vs.toArray.size = vs.length := by simp
  rw [hlen] at W
  refine ⟨_, _, _, vs.length, _, _, m₀, news, fun i m₁ news₁ => (ax, ot) ∈ news₁ ∧ Inv s.heap.objs.size i m₁ news₁, rfl, W, ?_, ?_, ?_, ⟨⟨_, Heap.get?_push_size _ rfl, rfl, rfl⟩, hts.at fun o e => Heap.get?_push_of_some _ e⟩, F.push _, (fun p hp => ⟨Heap.get?_push_of_some _ (N p hp).1, (N p hp).2⟩), ⟨hm, start _ hnI⟩, ?_, ?_⟩
  · intro hmm
    rcases List.mem_cons.mp hmm with e | hmm
    · exact absurd F.ns.lt (e ▸ Nat.lt_irrefl _)
    · exact hax.2.1 (List.mem_singleton.mp hmm).symm
  · intro b hb
    rw [List.mem_singleton.mp hb]
    exact hnew
  · intro p hp hI
    exact absurd (Heap.lt_size (N p hp).1) ((List.mem_singleton.mp hI) ▸ Nat.lt_irrefl _)
  · rintro i v m₁ news₁ s₁ own ⟨hh', tk', rfl⟩ hin hP ⟨hmem₁, hJ⟩ hoff hown hget hall hst F₁ N₁
    obtain ⟨it, hit, hic, hid⟩ := hst.1
    have hmemI := hall s.heap.objs.size (List.mem_cons_self ..) hnew _ hit
    have hv : vs[i]? = some v := by simpa using hP
    have N₂ : News h₀ env.locals hh' ((s.heap.objs.size, it) :: news₁) := fun p hp => by
      rcases List.mem_cons.mp hp with rfl | hp
      · exact N₁ _ (List.mem_append_left _ hmemI)
      · exact N₁ _ (List.mem_append_right _ hp)
    refine wpAny_mono (hstep _ i m₁ news₁ hnI v hv hJ it hh' tk' hic F₁ N₂) (fun f s₂ p => ?_) fun _ _ e => e
    have fin : UnrEnd h₀ env.locals { s with heap := hh', toks := tk' } s.heap.objs.size it (fun m' n' => (ax, ot) ∈ n' ∧ Inv s.heap.objs.size (i + 1) m' n') s₂ →
        LoopStepU h₀ env.locals [s.heap.objs.size] own (fun m' n' => (ax, ot) ∈ n' ∧ Inv s.heap.objs.size (i + 1) m' n') { s with heap := hh', toks := tk' } .next s₂ := by
      rintro ⟨h', tk, m', news', e, F', N', ho, r⟩
      refine ⟨rfl, h', tk, m', news', e, F', fun p hp => ?_, fun p hp hI => ho p hp (List.mem_singleton.mp hI), r⟩
      rcases List.mem_append.mp hp with hp | hp
      · have h2 : hh'.get? p.1 = some p.2 := hget p hp
        rcases List.mem_cons.mp (hown p hp) with h1 | h1
        · have h3 : p = (s.heap.objs.size, it) := by
            rw [h1, hit] at h2
            exact Prod.ext h1 (Option.some.inj h2).symm
          rw [h3]; exact N' _ (List.mem_cons_self ..)
        · have h1' : p.1 = ax := List.mem_singleton.mp h1
          have h3 : p = (ax, ot) := by
            rw [h1', (N₁ _ (List.mem_append_right _ hmem₁)).1] at h2
            exact Prod.ext h1' (Option.some.inj h2).symm
          rw [h3]; exact N' _ (List.mem_cons_of_mem _ r.1)
      · exact N' _ (List.mem_cons_of_mem _ hp)
    cases f with
    | ret v => exact .ret p
    | brk => exact .brk p
    | next => exact .next (fin p)
    | cont => exact .cont (fin p)
  · rintro h' tk m' news' F' N' _ hJ
    exact hend _ m' news' hnI hJ.2 h' tk F' N'
end

section
variable {w : World} {g h : Heap} {L : Addr} {s : Shared}
/-- rows (a text, a number) as tuples of a ledger -/
inductive RowsIn (tl : List (Addr × Obj)) : List Value → List (Str × Int) → Prop
  | nil : RowsIn tl [] []
  | cons {r : Addr} {x : Str} {n : Int} {t u : Tok} {vs : List Value} {rs : List (Str × Int)} : (r, tupO [.str x t, .int n u]) ∈ tl → RowsIn tl vs rs → RowsIn tl (.ref r :: vs) ((x, n) :: rs)
theorem RowsIn.at {tl : List (Addr × Obj)} {vs : List Value} {rs : List (Str × Int)} (h : RowsIn tl vs rs) : ∀ {i : Nat} {v : Value}, vs[i]? = some v → ∃ r x n t u, v = .ref r ∧ rs[i]? = some (x, n) ∧ (r, tupO [.str x t, .int n u]) ∈ tl := by
  induction h with
  | nil => intro i v e; simp at e
  | @cons r x n t u vs rs hm _ ih =>
    intro i v e
    cases i with
    | zero => simp at e; exact ⟨r, x, n, t, u, e.symm, rfl, hm⟩
    | succ i =>
      obtain ⟨r', x', n', t', u', a, b, c⟩ := ih (i := i) (v := v) (by simpa using e)
      exact ⟨r', x', n', t', u', a, by simpa using b, c⟩
theorem RowsIn.length {tl : List (Addr × Obj)} {vs : List Value} {rs : List (Str × Int)} (h : RowsIn tl vs rs) : vs.length = rs.length := by
  induction h with
  | nil => rfl
  | cons _ _ ih => simp [ih]
def AllTup : List (Addr × Obj) → Prop
  | [] => True
  | p :: r => p.2.cls = .type "tuple" ∧ AllTup r
theorem AllTup.at {l : List (Addr × Obj)} (h : AllTup l) : ∀ p ∈ l, p.2.cls = .type "tuple" := by
  induction l with
  | nil => intro p hp; cases hp
  | cons q l ih =>
    intro p hp
    rcases List.mem_cons.mp hp with e | hp
    · rw [e]; exact h.1
    · exact ih h.2 p hp
theorem abs_rows {DB : Addr} {vs : List Value} {l last tl0 : List (Addr × Obj)} {RL : List (Str × Int)} {G : Prop} (k : Nat) (N : News g L h ((DB, tupO vs) :: l)) (htk : l.take k = tl0) (hl : l.drop k = last) (hr : RowsIn tl0 vs RL) (ht : AllTup tl0)
    (cont : ∀ vs' tl, RowsIn tl vs' RL → AllTup ((DB, tupO vs') :: tl) → News g L h (last ++ ((DB, tupO vs') :: tl)) → G) : G := by
  refine cont vs tl0 hr ⟨rfl, ht⟩ (newsSub N fun p hp => ?_)
  rcases List.mem_append.mp hp with hp | hp
  · exact .tail _ (List.mem_of_mem_drop (by rw [hl]; exact hp))
  · rcases List.mem_cons.mp hp with rfl | hp
    · exact .head _
    · exact .tail _ (List.mem_of_mem_take (by rw [htk]; exact hp))
/-- tuples of a ledger stand apart from what is no tuple -/
theorem tup_off {l tl : List (Addr × Obj)} {a : Addr} {o : Obj} (N : News g L h l) (ha : (a, o) ∈ l) (hc : o.cls ≠ .type "tuple") (hs : ∀ q ∈ tl, q ∈ l) (ht : AllTup tl) : ∀ q ∈ tl, q.1 ≠ a := by
  intro q hq e
  have h1 := (N q (hs q hq)).1
  rw [e, (N _ ha).1] at h1
  have := ht.at q hq
  rw [← Option.some.inj h1] at this
  exact hc this
def keysOf (AT : List Str) (rows : List (Str × Int)) : List (List Int) := rows.map fun q => [((AT.idxOf q.1 : Nat) : Int), q.2]
/-- the made keys: in the list and in the dict -/
inductive FvIn (tl : List (Addr × Obj)) : List Value → FKeys → Prop
  | nil : FvIn tl [] []
  | snoc {r : Addr} {a n : Int} {t u : Tok} {v : Value} {fv : List Value} {xs : FKeys} : FvIn tl fv xs → (r, tupO [.int a t, .int n u]) ∈ tl → FvIn tl (fv ++ [.ref r]) (xs ++ [([a, n], r, v)])
theorem FvIn.more {tl tl' : List (Addr × Obj)} {fv : List Value} {xs : FKeys} (h : FvIn tl fv xs) (hs : ∀ q ∈ tl, q ∈ tl') : FvIn tl' fv xs := by
  induction h with
  | nil => exact .nil
  | snoc _ hm ih => exact .snoc ih (hs _ hm)
theorem FvIn.length {tl : List (Addr × Obj)} {fv : List Value} {xs : FKeys} (h : FvIn tl fv xs) : fv.length = xs.length := by
  induction h with
  | nil => rfl
  | snoc _ _ ih => simp [ih]
theorem FvIn.keys {tl l : List (Addr × Obj)} {fv : List Value} {xs : FKeys} (h : FvIn tl fv xs) (N : News g L s.heap l) (hs : ∀ q ∈ tl, q ∈ l) : KeysAt w s.heap xs := by
  induction h with
  | nil => intro x hx; cases hx
  | snoc _ hm ih =>
    intro x hx
    rcases List.mem_append.mp hx with hx | hx
    · exact ih x hx
    · rw [List.mem_singleton.mp hx]
      exact tkey (N _ (hs _ hm)).1
end
end
section
variable {w : World} {A A₀ : Around} {base g : Heap} {outer : List Env} {env : Env} {s : Shared} {p : Program} {loose : List Str} {mean : ExcName → Option Value} {mg mb : Str → Option Value}
  {R : Result → Shared → Prop} {Q E : Value → Shared → Prop} {L : Addr} {m : Str → Option Value} {news : List (Addr × Obj)}
theorem RowsIn.more {tl tl' : List (Addr × Obj)} {vs : List Value} {rs : List (Str × Int)} (h : RowsIn tl vs rs) (hs : ∀ q ∈ tl, q ∈ tl') : RowsIn tl' vs rs := by
  induction h with
  | nil => exact .nil
  | cons hm _ ih => exact .cons (hs _ hm) ih
theorem RowsIn.tups {tl : List (Addr × Obj)} {vs : List Value} {rs : List (Str × Int)} (_ : RowsIn tl vs rs) : True := trivial
theorem AllTup.snoc {l : List (Addr × Obj)} {p : Addr × Obj} (h : AllTup l) (hp : p.2.cls = .type "tuple") : AllTup (l ++ [p]) := by
  induction l with
  | nil => exact ⟨hp, trivial⟩
  | cons a r ih => exact ⟨h.1, ih h.2⟩
/-- the displays of rows of a text and a number -/
inductive RowsE : List PySem.Expr → List (Str × Int) → Prop
  | nil : RowsE [] []
  | cons {x : Str} {n : Int} {k k1 k2 : Nat} {p p1 p2 : Pos} {es : List PySem.Expr} {rs : List (Str × Int)} : RowsE es rs → RowsE (.Tuple [.Constant (.str x) k1 p1, .Constant (.int n) k2 p2] k p :: es) ((x, n) :: rs)
theorem rows_walk {es : List PySem.Expr} {rs : List (Str × Int)} {pos : Pos} (he : RowsE es rs) : ∀ {QL : List Value → Shared → Prop} {s : Shared} {news : List (Addr × Obj)}, Fr g L s.heap m → News g L s.heap news →
    (∀ h' tk' vs tl, Fr g L h' m → News g L h' (tl ++ news) → RowsIn tl vs rs → AllTup tl → QL vs { s with heap := h', toks := tk' }) → wpAny (MM w) A (spliced (backTo pos (starEach es env))) QL E s := by
  induction he with
  | nil => intro QL s news F N h; exact args_nil (h _ _ [] [] F N .nil trivial)
  | @cons x n k k1 k2 p p1 p2 es rs _ ih =>
    intro QL s news F N h
    refine args_cons (Tuple_ (args_cons (Calls.Constant_str (args_cons (wpAny_Constant_int (args_nil (kup_newTuple F N (fun D h1 F1 N1 l1 => ?_) (Nat.le_of_ble_eq_true rfl)))))))) (by rfl)
    refine ih F1 N1 fun h' tk' vs tl F2 N2 hr ht => h h' tk' _ (tl ++ [(D, _)]) F2 (by rw [List.append_assoc]; exact N2) (.cons (List.mem_append_right _ (.head _)) (hr.more fun q hq => List.mem_append_left _ hq)) ?_
    exact ht.snoc rfl
theorem tup_rows {es : List PySem.Expr} {rs : List (Str × Int)} {k : Nat} {pos : Pos} (he : RowsE es rs) (F : Fr g L s.heap m) (N : News g L s.heap news) (hl : rs.length ≤ 100)
    (h : ∀ h' tk' vs tl D, Fr g L h' m → News g L h' ((D, tupO vs) :: (tl ++ news)) → RowsIn tl vs rs → AllTup tl → Q (.ref D) { s with heap := h', toks := tk' }) : wpAny (MM w) A (eval (.Tuple es k pos) env) Q E s :=
  Tuple_ (rows_walk he F N fun h' tk' vs tl F1 N1 hr ht => kup_newTuple F1 N1 (fun D h2 F2 N2 _ => h h2 tk' vs tl D F2 N2 hr ht) (by rw [hr.length, sizeLine_eq]; omega))
/-- the rows of fixed_functors -/
def FL : List (Str × Int) := [(Str.ofString ".", 2), (Str.ofString ",", 2), (Str.ofString ";", 2), (Str.ofString "->", 2), (Str.ofString "\\+", 1), (Str.ofString ":-", 2), (Str.ofString ":-", 1), (Str.ofString "?-", 1), (Str.ofString "-->", 2), (Str.ofString "{}", 1), (Str.ofString "=", 2), (Str.ofString "^", 2), (Str.ofString "-", 1), (Str.ofString "-", 2), (Str.ofString "+", 2), (Str.ofString "/", 2), (Str.ofString "error", 2), (Str.ofString "$VAR", 1), (Str.ofString "catch", 3), (Str.ofString "throw", 1), (Str.ofString "!", 0), (Str.ofString "true", 0), (Str.ofString "fail", 0), (Str.ofString "false", 0), (Str.ofString "call", 1), (Str.ofString "call", 2), (Str.ofString "call", 3), (Str.ofString "call", 4), (Str.ofString "call", 5), (Str.ofString "call", 6), (Str.ofString "call", 7), (Str.ofString "call", 8)]
theorem functors_spec (D : Rdy A base outer s.heap []) (C : Wd w base p loose mean mg mb) (hd : A.depth ≤ 570) (hu : A.units ≤ 1700)
    (z : ∀ DB vs tl h' tk', RowsIn tl vs FL → AllTup ((DB, tupO vs) :: tl) → Keeps [] s.heap h' → (∀ q ∈ (DB, tupO vs) :: tl, h'.get? q.1 = some q.2 ∧ s.heap.get? q.1 = none) → R (.ok (.ret (.ref DB))) { s with heap := h', toks := tk' }) :
    codeAny (MM w) A (.call (.ref 68) ⟨[], []⟩) R s := by
  refine' enter 570 1700 (binds := []) D C.X C.T hd hu ?k6 ?k7 ?k8 ?k9 ?kB ?_ ?c2 ?c3 ?c4 ?c5
  walk_at "my enter"
  intro g L h₁ tk eL hg hgs F N l1 B X' T' env1
  have at0 := D.at_
  clear D
  repeat' (first | ((fail_if_success (with_reducible show wpAny _ _ (eval (PySem.Expr.Tuple _ _ _) _) _ _ _)); walk_at "my step"))
  with_reducible refine' tup_rows ?rows F N ?len ?go
  case rows => repeat' constructor
  case len => exact Nat.le_of_ble_eq_true rfl
  intro h' tk' vs tl DB F1 N1 hr ht
  have hr' : RowsIn tl vs FL := hr
  have nm0 : ∀ {a : Addr}, a ∉ ([] : List (Addr × Obj)).map (·.1) := fun q => nomatch q
  refine z DB vs tl h' tk' hr' ⟨rfl, ht⟩ (fun b o e _ => F1.keep b o (hg b o e nm0)) fun q hq => ?_
  have hm : q ∈ (DB, tupO vs) :: (tl ++ []) := by rw [List.append_nil]; exact hq
  exact ⟨N1.get (a := q.1) (o := q.2) hm, freshOf hg (N1 q hm).2.2 nm0⟩
theorem functors_use (B : Below A₀ base outer g) (F : Fr g L s.heap m) (N : News g L s.heap news) (C : Wd w base p loose mean mg mb)
    (hh : A.handled = none) (hA : A.frames = some (env :: outer)) (hf : env.frame = some L) (hke : env.scope.kind = .function) (hd : A.depth ≤ 570) (hu : A.units ≤ 1700)
    (z : ∀ DB vs tl h' tk', RowsIn tl vs FL → AllTup ((DB, tupO vs) :: tl) → Fr g L h' m → News g L h' (news ++ ((DB, tupO vs) :: tl)) → Q (.ref DB) { s with heap := h', toks := tk' }) :
    wpAny (MM w) A (call (.ref 68) []) Q E s := by
  have N0 : News g L s.heap [] := newsSub N fun _ q => nomatch q
  refine wpAny_call (functors_spec (Rdy.nest B F N0 hh hA hf hke) C hd hu fun DB vs tl h' tk' hr ht hK hq => ?_)
  refine z DB vs tl h' tk' hr ht (frAfter F (mods := []) N0 hK) fun q hm => ?_
  rcases List.mem_append.mp hm with hm | hm
  · exact newsAfter0 N hK q hm
  · obtain ⟨e1, e2⟩ := hq q hm
    exact ⟨e1, newNe F e2, newNone F e2⟩
def strOf : Value → Str
  | .str x _ => x
  | _ => Str.ofString ""
def isStrV : Value → Bool
  | .str _ _ => true
  | _ => false
theorem isStrV_of {v : Value} (h : isStrV v = true) : ∃ t, v = .str (strOf v) t := by
  cases v with
  | str x t => exact ⟨t, rfl⟩
  | _ => cases h
/-- displays of texts -/
inductive LitE : List PySem.Expr → List Str → Prop
  | nil : LitE [] []
  | cons {x : Str} {k : Nat} {p : Pos} {es : List PySem.Expr} {rs : List Str} : LitE es rs → LitE (.Constant (.str x) k p :: es) (x :: rs)
def StrsAre (vs : List Value) (rs : List Str) : Prop := vs.length = rs.length ∧ vs.all isStrV = true ∧ vs.map strOf = rs
theorem lits_walk {es : List PySem.Expr} {rs : List Str} {pos : Pos} (he : LitE es rs) : ∀ {QL : List Value → Shared → Prop} {s : Shared}, (∀ tk' vs, StrsAre vs rs → QL vs { s with toks := tk' }) → wpAny (MM w) A (spliced (backTo pos (starEach es env))) QL E s := by
  induction he with
  | nil => intro QL s h; exact args_nil (h s.toks [] ⟨rfl, rfl, rfl⟩)
  | @cons x k p es rs _ ih =>
    intro QL s h
    refine args_cons (Calls.Constant_str ?_) (by rfl)
    exact ih fun tk' vs hv => h tk' _ ⟨congrArg Nat.succ hv.1, hv.2.1, congrArg (x :: ·) hv.2.2⟩
theorem tup_lits {es : List PySem.Expr} {rs : List Str} {k : Nat} {pos : Pos} (he : LitE es rs) (F : Fr g L s.heap m) (N : News g L s.heap news) (hl : rs.length ≤ 100)
    (h : ∀ h' tk' vs D, Fr g L h' m → News g L h' ((D, tupO vs) :: news) → StrsAre vs rs → Q (.ref D) { s with heap := h', toks := tk' }) : wpAny (MM w) A (eval (.Tuple es k pos) env) Q E s :=
  Tuple_ (lits_walk he fun tk' vs hv => kup_newTuple (s := { s with toks := tk' }) F N (fun D h2 F2 N2 _ => h h2 tk' vs D F2 N2 hv) (by rw [hv.1, sizeLine_eq]; omega))
/-- the texts of fixed_atoms -/
def ATL : List Str := [Str.ofString "[]", Str.ofString ".", Str.ofString "{}", Str.ofString "-", Str.ofString "+", Str.ofString "*", Str.ofString "/", Str.ofString ",", Str.ofString "|", Str.ofString ";", Str.ofString "->", Str.ofString "\\+", Str.ofString ":-", Str.ofString "?-", Str.ofString "-->", Str.ofString "!", Str.ofString "true", Str.ofString "fail", Str.ofString "false", Str.ofString "call", Str.ofString "=", Str.ofString "^", Str.ofString "error", Str.ofString "", Str.ofString "end_of_file", Str.ofString "system", Str.ofString "$VAR", Str.ofString "catch", Str.ofString "throw"]
theorem atl_t : Str.ofString "t" ∉ ATL := by decide +kernel
theorem atl_fold : ATL.foldl addT [] = ATL := by decide +kernel
theorem atl_keys : (keysOf ATL FL).Nodup := by decide +kernel
theorem atl_fl : ∀ q ∈ FL, q.1 ∈ ATL := by decide +kernel
theorem atoms_spec (D : Rdy A base outer s.heap []) (C : Wd w base p loose mean mg mb) (hd : A.depth ≤ 570) (hu : A.units ≤ 1700)
    (z : ∀ DA vs h' tk', StrsAre vs ATL → Keeps [] s.heap h' → h'.get? DA = some (tupO vs) → s.heap.get? DA = none → R (.ok (.ret (.ref DA))) { s with heap := h', toks := tk' }) :
    codeAny (MM w) A (.call (.ref 61) ⟨[], []⟩) R s := by
  refine' enter 570 1700 (binds := []) D C.X C.T hd hu ?k6 ?k7 ?k8 ?k9 ?kB ?_ ?c2 ?c3 ?c4 ?c5
  walk_at "my enter"
  intro g L h₁ tk eL hg hgs F N l1 B X' T' env1
  have at0 := D.at_
  clear D
  repeat' (first | ((fail_if_success (with_reducible show wpAny _ _ (eval (PySem.Expr.Tuple _ _ _) _) _ _ _)); walk_at "my step"))
  with_reducible refine' tup_lits ?rows F N ?len ?go
  case rows => repeat' constructor
  case len => exact Nat.le_of_ble_eq_true rfl
  intro h' tk' vs DA F1 N1 hv
  have hv' : StrsAre vs ATL := hv
  have nm0 : ∀ {a : Addr}, a ∉ ([] : List (Addr × Obj)).map (·.1) := fun q => nomatch q
  exact z DA vs h' tk' hv' (fun b o e _ => F1.keep b o (hg b o e nm0)) (N1.get (.head _)) (freshOf hg (N1 _ (.head _)).2.2 nm0)
theorem atoms_use (B : Below A₀ base outer g) (F : Fr g L s.heap m) (N : News g L s.heap news) (C : Wd w base p loose mean mg mb)
    (hh : A.handled = none) (hA : A.frames = some (env :: outer)) (hf : env.frame = some L) (hke : env.scope.kind = .function) (hd : A.depth ≤ 570) (hu : A.units ≤ 1700)
    (z : ∀ DA vs h' tk', StrsAre vs ATL → Fr g L h' m → News g L h' ((DA, tupO vs) :: news) → (∀ q ∈ news, q.1 ≠ DA) → Q (.ref DA) { s with heap := h', toks := tk' }) :
    wpAny (MM w) A (call (.ref 61) []) Q E s := by
  have N0 : News g L s.heap [] := newsSub N fun _ q => nomatch q
  refine wpAny_call (atoms_spec (Rdy.nest B F N0 hh hA hf hke) C hd hu fun DA vs h' tk' hv hK h1 h2 => ?_)
  exact z DA vs h' tk' hv (frAfter F (mods := []) N0 hK) (newsCons (newsAfter0 N hK) h1 (newNe F h2) (newNone F h2)) fun q hq e => by have := (N q hq).1; rw [e, h2] at this; cases this
end
section
variable {w : World} {A A₀ : Around} {base g : Heap} {outer : List Env} {env : Env} {s : Shared} {p : Program} {loose : List Str} {mean : ExcName → Option Value} {mg mb : Str → Option Value}
  {R : Result → Shared → Prop} {Q E : Value → Shared → Prop} {L : Addr} {m : Str → Option Value} {news : List (Addr × Obj)}
def atomsOf (vs : List Value) : List Str := (vs.map strOf).foldl addT []
theorem foldl_len (l : List Str) : ∀ acc : List Str, (l.foldl addT acc).length ≤ acc.length + l.length := by
  induction l with
  | nil => intro acc; exact Nat.le_refl _
  | cons a l ih =>
    intro acc
    refine Nat.le_trans (ih _) ?_
    have : (addT acc a).length ≤ acc.length + 1 := by unfold addT; split <;> simp
    rw [List.length_cons]; omega
theorem atomsOf_len (vs : List Value) : (atomsOf vs).length ≤ vs.length := by
  have := foldl_len (vs.map strOf) []
  simpa [atomsOf] using this
theorem atomsOf_succ {vs : List Value} {i : Nat} {v : Value} (h : vs[i]? = some v) : atomsOf (vs.take (i + 1)) = addT (atomsOf (vs.take i)) (strOf v) := by
  rw [List.take_add_one, h]
  simp [atomsOf]
theorem end_tail {L I : Addr} {it : Obj} {m : Str → Option Value} {h : Heap} {rest : (Str → Option Value) → List (Addr × Obj) → Prop} {s₁ : Shared} {tk : Nat} {l : List (Addr × Obj)} (F : Fr g L h m) (N : News g L h ((I, it) :: l)) (off : ∀ p ∈ l, p.1 ≠ I) (r : rest m l) :
    UnrEnd g L s₁ I it rest { s₁ with heap := h, toks := tk } := UnrEnd.intro F N l (fun _ hp => hp) off r
theorem off7 {I a1 a2 a3 a4 a5 a6 a7 : Addr} {o1 o2 o3 o4 o5 o6 o7 p1 p2 p3 p4 p5 p6 p7 : Obj} (h : ∀ q ∈ [(a1, p1), (a2, p2), (a3, p3), (a4, p4), (a5, p5), (a6, p6), (a7, p7)], q.1 < I) : ∀ q ∈ [(a1, o1), (a2, o2), (a3, o3), (a4, o4), (a5, o5), (a6, o6), (a7, o7)], q.1 ≠ I :=
  offC (Nat.ne_of_lt (h (a1, p1) (memK 0 rfl))) (offC (Nat.ne_of_lt (h (a2, p2) (memK 1 rfl))) (offC (Nat.ne_of_lt (h (a3, p3) (memK 2 rfl))) (offC (Nat.ne_of_lt (h (a4, p4) (memK 3 rfl))) (offC (Nat.ne_of_lt (h (a5, p5) (memK 4 rfl))) (offC (Nat.ne_of_lt (h (a6, p6) (memK 5 rfl))) (offC (Nat.ne_of_lt (h (a7, p7) (memK 6 rfl))) offE))))))
theorem abs_tup {DA : Addr} {vs : List Value} {l : List (Addr × Obj)} {h : Heap} {G : Prop} (C : List Value → Prop) (N : News g L h ((DA, tupO vs) :: l)) (hC : C vs) (k : ∀ vs', C vs' → News g L h ((DA, tupO vs') :: l) → G) : G := k vs hC N
theorem all_at {vs : List Value} {i : Nat} {v : Value} (h : vs.all isStrV = true) (e : vs[i]? = some v) : isStrV v = true := List.all_eq_true.mp h v (List.mem_of_getElem? e)
def pairOf (q : Addr × Str × Int × Tok × Tok) : Addr × Obj := (q.1, tupO [.str q.2.1 q.2.2.2.1, .int q.2.2.1 q.2.2.2.2])
def refOf (q : Addr × Str × Int × Tok × Tok) : Value := .ref q.1
def rowOf (q : Addr × Str × Int × Tok × Tok) : Str × Int := (q.2.1, q.2.2.1)
theorem rowsIn_lits {tl : List (Addr × Obj)} : ∀ (l : List (Addr × Str × Int × Tok × Tok)), (∀ q ∈ l, pairOf q ∈ tl) → RowsIn tl (l.map refOf) (l.map rowOf)
  | [], _ => .nil
  | q :: l, h => .cons (h q (List.mem_cons_self ..)) (rowsIn_lits l fun p hp => h p (List.mem_cons_of_mem _ hp))
theorem allTup_of {l : List (Addr × Obj)} (h : ∀ p ∈ l, p.2.cls = .type "tuple") : AllTup l := by
  induction l with
  | nil => trivial
  | cons a l ih => exact ⟨h a (List.mem_cons_self ..), ih fun p hp => h p (List.mem_cons_of_mem _ hp)⟩
theorem abs_rows2 {DB : Addr} {vs : List Value} {l last : List (Addr × Obj)} {RL : List (Str × Int)} {L : Addr} {h : Heap} {G : Prop} (lits : List (Addr × Str × Int × Tok × Tok)) (N : News g L h ((DB, tupO vs) :: l)) (hl : l = (lits.map pairOf).reverse ++ last) (hvs : vs = lits.map refOf) (hRL : lits.map rowOf = RL)
    (cont : ∀ vs' tl RL', RL' = RL → RowsIn tl vs' RL' → AllTup ((DB, tupO vs') :: tl) → News g L h (last ++ ((DB, tupO vs') :: tl)) → G) : G := by
  subst hl hvs hRL
  refine cont _ (lits.map pairOf) _ rfl (rowsIn_lits lits fun q hq => List.mem_map_of_mem hq) ⟨rfl, allTup_of fun p hp => ?_⟩ (newsSub N fun p hp => ?_)
  · obtain ⟨q, _, rfl⟩ := List.mem_map.mp hp; rfl
  · rcases List.mem_append.mp hp with hp | hp
    · exact .tail _ (List.mem_append_right _ hp)
    · rcases List.mem_cons.mp hp with rfl | hp
      · exact .head _
      · exact .tail _ (List.mem_append_left _ (List.mem_reverse.mpr hp))
theorem newsHead {g h : Heap} {L D : Addr} {o : Obj} {l : List (Addr × Obj)} {G : Prop} (_N : News g L h ((D, o) :: l)) (k : ∀ D', D' = D → G) : G := k D rfl
theorem key_new {AT : List Str} {RL : List (Str × Int)} (hn : (keysOf AT RL).Nodup) {i : Nat} {x : Str} {n : Int} (h : RL[i]? = some (x, n)) : [((AT.idxOf x : Nat) : Int), n] ∉ keysOf AT (RL.take i) := by
  obtain ⟨hi, e⟩ := List.getElem?_eq_some_iff.mp h
  have e1 : RL = RL.take i ++ (x, n) :: RL.drop (i + 1) := by
    rw [← e, List.getElem_cons_drop, List.take_append_drop]
  rw [e1] at hn
  unfold keysOf at hn ⊢
  rw [List.map_append, List.map_cons, List.nodup_append] at hn
  intro q
  exact hn.2.2 _ q _ (List.mem_cons_self ..) rfl
theorem keys_succ {AT : List Str} {RL : List (Str × Int)} {i : Nat} {x : Str} {n : Int} (h : RL[i]? = some (x, n)) : keysOf AT (RL.take (i + 1)) = keysOf AT (RL.take i) ++ [[((AT.idxOf x : Nat) : Int), n]] := by
  unfold keysOf
  rw [List.take_add_one, h]
  simp
theorem addT_old {AT : List Str} {x : Str} (h : x ∈ AT) : addT AT x = AT := if_pos h
theorem keys_len {AT : List Str} {RL : List (Str × Int)} : (keysOf AT RL).length = RL.length := by simp [keysOf]
theorem other_cls {g h : Heap} {L a b : Addr} {o o' : Obj} {l : List (Addr × Obj)} (N : News g L h l) (ha : (a, o) ∈ l) (hb : (b, o') ∈ l) (hc : o.cls ≠ o'.cls) : a ≠ b := by
  intro e
  have h1 := (N _ ha).1
  have h2 := (N _ hb).1
  dsimp only at h1 h2
  rw [e, h2] at h1
  exact hc (congrArg Obj.cls (Option.some.inj h1)).symm
theorem iota29 {AT : List Str} {RL : List (Str × Int)} (hA : AT.length = 29) (hR : ∀ q ∈ RL, q.1 ∈ AT) (i : Int) : [29, i] ∉ keysOf AT RL := by
  intro hm
  obtain ⟨q, hq, e⟩ := List.mem_map.mp hm
  have h1 : AT.idxOf q.1 < AT.length := List.idxOf_lt_length_of_mem (hR q hq)
  have h2 : ((AT.idxOf q.1 : Nat) : Int) = 29 := (List.cons.inj e).1
  omega
inductive AtI (w : World) (S dS DA df lf dn lt : Addr) (vs : List Value) (od : Obj) (i : Nat) (m' : Str → Option Value) (news' : List (Addr × Obj)) : Prop where
  | mk (V : SyT) (tv0 : Option Value) (on : Obj) (kn : List (Str × Value)) (tv : List Value) (nT : Nat) (em : m' = (fun y => if y = Str.ofString "text" then tv0 else List.lookup y [(Str.ofString "self", Value.ref S)].reverse))
      (en : news' = [(DA, tupO vs), (df, od), (lf, listOf (#[] : Array Value) 0), (dn, on), (lt, listOf (tv : List Value).toArray nT), (S, instObj 155 dS), (dS, syO w V lt dn lf df)]) (hon : on.IsDictOf (strKind PP w) kn) (hK : NumAre 0 (atomsOf (vs.take i)) kn) (htv : tv.length = (atomsOf (vs.take i)).length)
inductive RwI (w : World) (S dS lt dn lf df DB : Addr) (V : SyT) (vsB : List Value) (tl : List (Addr × Obj)) (AT : List Str) (RL : List (Str × Int)) (tv0 : Option Value) (i : Nat) (m' : Str → Option Value) (news' : List (Addr × Obj)) : Prop where
  | mk (rv : Option Value) (on : Obj) (kn : List (Str × Value)) (tv : List Value) (nT : Nat) (od : Obj) (xs : FKeys) (fv : List Value) (nF : Nat) (tl' : List (Addr × Obj)) (em : m' = (fun y => if y = Str.ofString "row" then rv else if y = Str.ofString "text" then tv0 else List.lookup y [(Str.ofString "self", Value.ref S)].reverse))
      (en : news' = [(S, instObj 155 dS), (dS, syO w V lt dn lf df), (lt, listOf (tv : List Value).toArray nT), (dn, on), (lf, listOf (fv : List Value).toArray nF), (df, od)] ++ tl') (hsub : (∀ q ∈ (DB, tupO vsB) :: tl, q ∈ tl')) (htup : (∀ q ∈ tl', q.2.cls = .type "tuple"))
      (hon : on.IsDictOf (strKind PP w) kn) (hK : NumAre 0 AT kn) (htv : tv.length = AT.length) (hod : TDict w od xs) (hxs : xs.map (·.1) = keysOf AT (RL.take i)) (hfv : FvIn tl' fv xs)
theorem syminit_spec {S dS : Addr} (D : Rdy A base outer s.heap [(S, instObj 155 dS), (dS, dictOf [] 0)]) (C : Wd w base p loose mean mg mb) (hd : A.depth ≤ 560) (hu : A.units ≤ 1600) (hne : @Ne Nat S dS)
    (z : ∀ h' tk' V lt dn lf df on kn tv nT od xs fv nF tl AT, (AT : List Str).length = 29 → Str.ofString "t" ∉ AT → on.IsDictOf (strKind PP w) kn → NumAre 0 AT kn → (tv : List Value).length = AT.length → TDict w od xs → FvIn tl fv xs → xs.length = 32 → (∀ i : Int, [29, i] ∉ xs.map (·.1)) → (dn == sysModules) = false → (df == sysModules) = false →
      (@Ne Nat lt dn ∧ @Ne Nat lt S ∧ @Ne Nat lt dS ∧ @Ne Nat dn S ∧ @Ne Nat dn dS) → (@Ne Nat lf df ∧ @Ne Nat lf S ∧ @Ne Nat lf dS ∧ @Ne Nat df S ∧ @Ne Nat df dS) → (@Ne Nat lt lf ∧ @Ne Nat lt df ∧ @Ne Nat dn lf ∧ @Ne Nat dn df) →
      Keeps [dS] s.heap h' → (∀ q ∈ [(S, instObj 155 dS), (dS, syO w V lt dn lf df), (lt, listOf tv.toArray nT), (dn, on), (lf, listOf (fv : List Value).toArray nF), (df, od)] ++ tl, h'.get? q.1 = some q.2) → (∀ q ∈ [(lt, listOf tv.toArray nT), (dn, on), (lf, listOf fv.toArray nF), (df, od)] ++ tl, s.heap.get? q.1 = none) → (∀ q ∈ tl, q.2.cls = .type "tuple") →
      R (.ok (.ret .none)) { s with heap := h', toks := tk' }) :
    codeAny (MM w) A (.call (.ref 82) ⟨[.ref S], []⟩) R s := by
  refine' enter 560 1600 (binds := [(Str.ofString "self", .ref S)]) D C.X C.T hd hu ?k6 ?k7 ?k8 ?k9 ?kB ?_ ?c2 ?c3 ?c4 ?c5
  walk_at "my enter"
  intro g L h₁ tk eL hg hgs F N l1 B X' T' env1
  have at0 := D.at_
  clear D
  k_lt l1
  have hne' : @Ne Nat dS S := hne.symm
  (repeat' (walk_at "my step"))
  rename_i lt _ l1a _ dn _ on ldn hon _ _ _ l1b _ lf _ l1c _ df _ od ldf _ _ hod _ l1d _ _ _
  refine atoms_use (by assumption) (by assumption) (by assumption) (by assumption) rfl rfl rfl rfl (Nat.le_of_ble_eq_true rfl) (Nat.le_of_ble_eq_true rfl) ?_
  intro DA vs h' tk' hsA kF NA neA
  try dsimp only
  k_sweep
  have nA := allNe_of neA
  dsimp only [AllNe] at nA
  obtain ⟨hv29, hvs, hvAT⟩ := hsA
  have a1 : @Ne Nat lt dn := Nat.ne_of_lt l1b.1
  have a2 : @Ne Nat lt S := Nat.ne_of_gt l1a.1
  have a3 : @Ne Nat lt dS := Nat.ne_of_gt l1a.2
  have a4 : @Ne Nat dn S := Nat.ne_of_gt l1b.2.1
  have a5 : @Ne Nat dn dS := Nat.ne_of_gt l1b.2.2
  have a6 : @Ne Nat dn lt := a1.symm
  have a7 : @Ne Nat DA lt := nA.2.2.2.1.symm
  have a8 : @Ne Nat df lt := Nat.ne_of_gt l1d.2.2.1
  have a9 : @Ne Nat lf lt := Nat.ne_of_gt l1c.2.1
  have a10 : @Ne Nat S lt := a2.symm
  have a11 : @Ne Nat dS lt := a3.symm
  have a12 : @Ne Nat DA dn := nA.2.2.1.symm
  have a13 : @Ne Nat df dn := Nat.ne_of_gt l1d.2.1
  have a14 : @Ne Nat lf dn := Nat.ne_of_gt l1c.1
  have a15 : @Ne Nat S dn := a4.symm
  have a16 : @Ne Nat dS dn := a5.symm
  have hneA : @Ne Nat lt dn ∧ @Ne Nat lt S ∧ @Ne Nat lt dS ∧ @Ne Nat dn S ∧ @Ne Nat dn dS := ⟨a1, a2, a3, a4, a5⟩
  refine iter_tupInvN (ax := DA) (ot := tupO vs) (vs := vs) (fun I i m' news' => AtI w S dS DA df lf dn lt vs od i m' news') rfl kF NA (.head _) rfl ?start ?step ?fin
  case start =>
    intro I lI
    refine' ⟨⟨_, _, _, _⟩, none, on, [], [], 0, ?_, rfl, hon, NumAre.nil, rfl⟩
    funext y
    by_cases h1 : y = Str.ofString "text"
    · subst h1; exact rfl
    · simp [h1]
  case step =>
    rintro I i m' news' lI v hv ⟨V, tv0, on, kn, tv, nT, rfl, rfl, hon, hK, htv⟩ it hp tkp hit FP NP
    obtain ⟨tq, hvq⟩ := isStrV_of (all_at hvs hv)
    rw [hvq] at FP
    have hi29 : i < 29 := by rw [show 29 = vs.length from hv29.symm]; exact (List.getElem?_eq_some_iff.mp hv).1
    have hlenA : (atomsOf (vs.take i)).length ≤ 90 := Nat.le_trans (atomsOf_len _) (by rw [List.length_take]; omega)
    have hsucc := atomsOf_succ hv
    have b1 : @Ne Nat I lt := by have : lt < I := lI (lt, listOf (#[] : Array Value) 0) (by k_mem); exact Ne.symm (Nat.ne_of_lt this)
    have b2 : @Ne Nat I dn := by have : dn < I := lI (dn, _) (by k_mem); exact Ne.symm (Nat.ne_of_lt this)
    repeat' (first | ((fail_if_success (with_reducible show UnrEnd _ _ _ _ _ _ _)); (fail_if_success (with_reducible show UnrPost _ _ _ _ _ _ _ _ _)); walk_at "my step") | (((fail_if_success (fail_if_success (with_reducible show wpAny _ _ (call (Value.ref 89) _) _ _ _))); refine atom_use (by assumption) (by assumption) (by assumption) (by assumption) rfl rfl rfl rfl (Nat.le_of_ble_eq_true rfl) (Nat.le_of_ble_eq_true rfl) (by k_mem) (by k_mem) (by intro _; k_upd) (by intro _ _; k_upd) (by assumption) (by assumption) (by assumption) (by assumption) (by assumption) (by assumption) (by k_mem) ?_; intro t'_m h'_m tk'_m on'_m kn'_m tv'_m nT'_m hon'_m hK'_m htv'_m F'_m N'_m; (try dsimp only at N'_m); (try dsimp only); (try k_sweep))))
    refine end_tail (by assumption) (by assumption) (off7 lI) ⟨.head _, ?_⟩
    refine' ⟨V, some (.str (strOf v) tq), _, _, _, _, ?map, rfl, ?hon, (by rw [hsucc]; assumption), (by rw [hsucc]; assumption)⟩
    case hon => assumption
    case map =>
      funext y
      by_cases h1 : y = Str.ofString "text"
      · subst h1; exact rfl
      · simp [h1]
  case fin =>
    rintro I m' news' lI ⟨V, tv0, on, kn, tv, nT, rfl, rfl, hon, hK, htv⟩ hp tkp FP NP
    try dsimp only
    rw [List.take_length] at hK htv
    clear kF NA
    (repeat' (walk_at "my step"))
    refine functors_use (by assumption) (by assumption) (by assumption) (by assumption) rfl rfl rfl rfl (Nat.le_of_ble_eq_true rfl) (Nat.le_of_ble_eq_true rfl) ?_
    intro DB vsB tl h2 tk2 hRI hAT kF NB
    try dsimp only
    have c1 : @Ne Nat lf df := Nat.ne_of_lt l1d.1
    have c2 : @Ne Nat lf S := Nat.ne_of_gt l1c.2.2.1
    have c3 : @Ne Nat lf dS := Nat.ne_of_gt l1c.2.2.2
    have c4 : @Ne Nat df S := Nat.ne_of_gt l1d.2.2.2.1
    have c5 : @Ne Nat df dS := Nat.ne_of_gt l1d.2.2.2.2
    have e1 : @Ne Nat lt lf := Nat.ne_of_lt l1c.2.1
    have e2 : @Ne Nat lt df := Nat.ne_of_lt l1d.2.2.1
    have e3 : @Ne Nat dn lf := Nat.ne_of_lt l1c.1
    have e4 : @Ne Nat dn df := Nat.ne_of_lt l1d.2.1
    have hneB : @Ne Nat lf df ∧ @Ne Nat lf S ∧ @Ne Nat lf dS ∧ @Ne Nat df S ∧ @Ne Nat df dS := ⟨c1, c2, c3, c4, c5⟩
    have hneC : @Ne Nat lt lf ∧ @Ne Nat lt df ∧ @Ne Nat dn lf ∧ @Ne Nat dn df := ⟨e1, e2, e3, e4⟩
    obtain ⟨AT, eAT⟩ : ∃ AT, AT = ATL := ⟨_, rfl⟩
    obtain ⟨RL, eRL⟩ : ∃ RL, RL = FL := ⟨_, rfl⟩
    rw [← eRL] at hRI
    have f1 : AT.length = 29 := by rw [eAT]; rfl
    have f2 : Str.ofString "t" ∉ AT := by rw [eAT]; exact atl_t
    have f3 : atomsOf vs = AT := by
      show (vs.map strOf).foldl addT [] = AT
      rw [hvAT, eAT]; exact atl_fold
    have f4 : (keysOf AT RL).Nodup := by rw [eRL, eAT]; exact atl_keys
    have f5 : RL.length = 32 := by rw [eRL]; rfl
    have f6 : ∀ q ∈ RL, q.1 ∈ AT := by rw [eRL, eAT]; exact atl_fl
    clear hvAT eAT eRL
    rw [f3] at hK htv
    have hod0 : TDict w od [] := by
      obtain ⟨es, ep, q1, q2, _, q3, q4⟩ := hod
      refine ⟨es, ep, q1, q2, ?_, List.nodup_nil⟩
      cases hes : es.toList with
      | nil => rfl
      | cons a l => rw [hes] at q3; cases q3
    have N0 : News g L _ ([(S, instObj 155 dS), (dS, syO w V lt dn lf df), (lt, listOf tv.toArray nT), (dn, on), (lf, listOf ([] : List Value).toArray 0), (df, od)] ++ ((DB, tupO vsB) :: tl)) := newsSub NB (by
      intro p hp
      rcases List.mem_append.mp hp with h1 | hp
      · refine List.mem_append_left _ ?_
        clear hp
        revert p
        refine allC ?_ (allC ?_ (allC ?_ (allC ?_ (allC ?_ (allC ?_ (allE))))))
        · exact .tail _ (.tail _ (.tail _ (.tail _ (.tail _ (.head _)))))
        · exact .tail _ (.tail _ (.tail _ (.tail _ (.tail _ (.tail _ (.head _))))))
        · exact .tail _ (.tail _ (.tail _ (.tail _ (.head _))))
        · exact .tail _ (.tail _ (.tail _ (.head _)))
        · exact .tail _ (.tail _ (.head _))
        · exact .tail _ (.head _)
      · exact List.mem_append_right _ hp)
    clear NB
    refine iter_tupInvN (ax := DB) (ot := tupO vsB) (vs := vsB) (fun I i m' news' => RwI w S dS lt dn lf df DB V vsB tl AT RL tv0 i m' news') rfl kF N0 (List.mem_append_right _ (.head _)) rfl ?start ?step ?fin
    case start =>
      intro I lI
      refine ⟨none, on, kn, tv, nT, od, [], [], 0, _, ?_, rfl, fun q hq => hq, hAT.at, hon, hK, htv, hod0, rfl, .nil⟩
      funext y
      by_cases h1 : y = Str.ofString "row"
      · subst h1; exact rfl
      · simp [h1]
    case step =>
      rintro I i m' news' lI v hv ⟨rv, on, kn, tv, nT, od, xs, fv, nF, tl', rfl, rfl, hsub, htup, hon, hK, htv, hod, hxs, hfv⟩ it hp tkp hit FP NP
      obtain ⟨r, x, n, t, u, rfl, hRi, hmr⟩ := hRI.at hv
      have hr : IsTup hp r [.str x t, .int n u].toArray := tup_of (NP _ (.tail _ (List.mem_append_right _ (hsub _ (.tail _ hmr))))).1
      simp only [List.cons_append, List.nil_append] at NP
      repeat' (first | ((fail_if_success (fail_if_success (with_reducible show wpAny _ _ (subscriptTail _ _ (Value.ref _) (Value.int _ _)) _ _ _))); refine item_tupleT (by assumption) (by decide) (by decide) rfl rfl ?_; (try dsimp only)) | ((fail_if_success (with_reducible show UnrEnd _ _ _ _ _ _ _)); (fail_if_success (with_reducible show UnrPost _ _ _ _ _ _ _ _ _)); walk_at "my step"))
      have hl32 : xs.length ≤ 90 := by
        have q := congrArg List.length hxs
        rw [List.length_map, keys_len, List.length_take] at q
        omega
      have nm4 : ∀ {q : Addr × Obj}, q.1 ≠ lt → q.1 ≠ dn → q.1 ≠ lf → q.1 ≠ df → q.1 ∉ [lt, dn, lf, df] := fun h1 h2 h3 h4 => by
        simp only [List.mem_cons, List.not_mem_nil, or_false, not_or]; exact ⟨h1, h2, h3, h4⟩
      have hcl : ∀ {kn : List (Str × Value)} {on : Obj}, on.IsDictOf (strKind PP w) kn → on.cls ≠ .type "tuple" := fun h => dict_cls h
      have hct : od.cls ≠ .type "tuple" := by
        obtain ⟨es, ep, hx, _⟩ := hod
        rw [hx.1]; decide
      have hrest : ∀ q ∈ (I, it) :: tl', q.1 ∉ [lt, dn, lf, df] := by
        intro q hq
        rcases List.mem_cons.mp hq with rfl | hq
        · exact nm4 (Ne.symm (Nat.ne_of_lt (lI (lt, _) (.tail _ (.tail _ (.head _)))))) (Ne.symm (Nat.ne_of_lt (lI (dn, _) (.tail _ (.tail _ (.tail _ (.head _))))))) (Ne.symm (Nat.ne_of_lt (lI (lf, _) (.tail _ (.tail _ (.tail _ (.tail _ (.head _)))))))) (Ne.symm (Nat.ne_of_lt (lI (df, _) (.tail _ (.tail _ (.tail _ (.tail _ (.tail _ (.head _)))))))))
        · have hqm : q ∈ (I, it) :: (S, instObj 155 dS) :: (dS, syO w V lt dn lf df) :: (lt, listOf tv.toArray nT) :: (dn, on) :: (lf, listOf fv.toArray nF) :: (df, od) :: tl' := by
            exact .tail _ (.tail _ (.tail _ (.tail _ (.tail _ (.tail _ (.tail _ hq))))))
          have hqc := htup q hq
          refine nm4 (other_cls NP hqm (.tail _ (.tail _ (.tail _ (.head _)))) ?_) (other_cls NP hqm (.tail _ (.tail _ (.tail _ (.tail _ (.head _))))) ?_) (other_cls NP hqm (.tail _ (.tail _ (.tail _ (.tail _ (.tail _ (.head _)))))) ?_) (other_cls NP hqm (.tail _ (.tail _ (.tail _ (.tail _ (.tail _ (.tail _ (.head _))))))) ?_)
          · rw [hqc]; show Value.type "tuple" ≠ Value.type "list"; decide
          · rw [hqc]; exact Ne.symm (hcl hon)
          · rw [hqc]; show Value.type "tuple" ≠ Value.type "list"; decide
          · rw [hqc]; exact Ne.symm hct
      have N7 : News g L hp ([(S, instObj 155 dS), (dS, syO w V lt dn lf df), (lt, listOf tv.toArray nT), (dn, on), (lf, listOf fv.toArray nF), (df, od)] ++ ((I, it) :: tl')) := newsSub NP (by
        refine allA ?_ fun q hq => ?_
        · refine allC ?_ (allC ?_ (allC ?_ (allC ?_ (allC ?_ (allC ?_ (allE))))))
          · exact .tail _ (.head _)
          · exact .tail _ (.tail _ (.head _))
          · exact .tail _ (.tail _ (.tail _ (.head _)))
          · exact .tail _ (.tail _ (.tail _ (.tail _ (.head _))))
          · exact .tail _ (.tail _ (.tail _ (.tail _ (.tail _ (.head _)))))
          · exact .tail _ (.tail _ (.tail _ (.tail _ (.tail _ (.tail _ (.head _))))))
        · rcases List.mem_cons.mp hq with rfl | hq
          · exact .head _
          · exact .tail _ (.tail _ (.tail _ (.tail _ (.tail _ (.tail _ (.tail _ hq)))))))
      refine func_use (rest := (I, it) :: tl') B FP N7 C rfl rfl rfl rfl (Nat.le_of_ble_eq_true rfl) (Nat.le_of_ble_eq_true rfl) hon ldn hK htv (by rw [f1]; decide) hneA hod (hfv.keys (s := { s with heap := hp, toks := tkp }) NP fun q hq => .tail _ (.tail _ (.tail _ (.tail _ (.tail _ (.tail _ (.tail _ hq))))))) ldf hfv.length hl32 (by rw [hxs]; exact key_new f4 hRi) hneB hneC hrest ?_
      intro t' r' t1 t2 tk1 h' tk' on' kn' tv' nT' od' nF' e1 e2 e3 e4 F' N' hrest' hfresh'
      rw [addT_old (f6 _ (List.mem_of_getElem? hRi))] at e2 e3
      try dsimp only
      clear N7 FP NP
      repeat' ((fail_if_success (with_reducible show UnrEnd _ _ _ _ _ _ _)); (fail_if_success (with_reducible show UnrPost _ _ _ _ _ _ _ _ _)); walk_at "my step")
      refine UnrEnd.intro (by assumption) (by assumption) ([(S, instObj 155 dS), (dS, syO w V lt dn lf df), (lt, listOf tv'.toArray nT'), (dn, on'), (lf, listOf (fv ++ [Value.ref r']).toArray nF'), (df, od')] ++ ((r', tupO [.int ((AT.idxOf x : Nat) : Int) t1, .int n t2]) :: tl')) ?sub ?off ⟨List.mem_append_right _ (.tail _ (hsub _ (.head _))), some (.ref r), on', kn', tv', nT', od', _, _, nF', _, ?map, rfl, ?hs, ?ht, e1, e2, e3, e4, ?ks, FvIn.snoc (hfv.more fun q hq => .tail _ hq) (.head _)⟩
      case sub =>
        intro q hq
        rcases List.mem_cons.mp hq with rfl | hq
        · exact List.mem_append_right _ (.tail _ (.head _))
        · rcases List.mem_append.mp hq with hq | hq
          · exact List.mem_append_left _ hq
          · rcases List.mem_cons.mp hq with rfl | hq
            · exact List.mem_append_right _ (.head _)
            · exact List.mem_append_right _ (.tail _ (.tail _ hq))
      case off =>
        have hIc : ∀ {q : Addr × Obj}, q ∈ (r', tupO [.int ((AT.idxOf x : Nat) : Int) t1, .int n t2]) :: tl' → q.2.cls = .type "tuple" → q.1 ≠ I := fun {q} hq hc => by
          refine other_cls N' (o := q.2) (List.mem_append_right _ ?_) (List.mem_append_right _ (.tail _ (.head _))) ?_
          · rcases List.mem_cons.mp hq with rfl | hq
            · exact .head _
            · exact .tail _ (.tail _ hq)
          · rw [hc, hit]; decide
        refine allA ?_ fun q hq => ?_
        · refine allC ?_ (allC ?_ (allC ?_ (allC ?_ (allC ?_ (allC ?_ (allE))))))
          · show @Ne Nat S I
            exact Nat.ne_of_lt (lI (S, _) (.head _))
          · show @Ne Nat dS I
            exact Nat.ne_of_lt (lI (dS, _) (.tail _ (.head _)))
          · show @Ne Nat lt I
            exact Nat.ne_of_lt (lI (lt, _) (.tail _ (.tail _ (.head _))))
          · show @Ne Nat dn I
            exact Nat.ne_of_lt (lI (dn, _) (.tail _ (.tail _ (.tail _ (.head _)))))
          · show @Ne Nat lf I
            exact Nat.ne_of_lt (lI (lf, _) (.tail _ (.tail _ (.tail _ (.tail _ (.head _))))))
          · show @Ne Nat df I
            exact Nat.ne_of_lt (lI (df, _) (.tail _ (.tail _ (.tail _ (.tail _ (.tail _ (.head _)))))))
        · refine hIc hq ?_
          rcases List.mem_cons.mp hq with rfl | hq
          · rfl
          · exact htup q hq
      case map =>
        funext y
        by_cases h1 : y = Str.ofString "row"
        · subst h1; exact rfl
        · simp [h1]
      case hs => exact fun q hq => .tail _ (hsub q hq)
      case ht =>
        intro q hq
        rcases List.mem_cons.mp hq with rfl | hq
        · rfl
        · exact htup q hq
      case ks =>
        rw [List.map_append, hxs, keys_succ hRi]; rfl
    case fin =>
      rintro I m' news' lI ⟨rv, on, kn, tv, nT, od, xs, fv, nF, tl', rfl, rfl, hsub, htup, hon, hK, htv, hod, hxs, hfv⟩ hp tkp FP NP
      try dsimp only
      have hl32 : xs.length = 32 := by
        have q := congrArg List.length hxs
        rw [List.length_map, keys_len, List.length_take] at q
        have := hRI.length
        omega
      clear kF N0
      (repeat' (walk_at "my step"))
      have htake : RL.take vsB.length = RL := List.take_of_length_le (by rw [hRI.length]; exact Nat.le_refl _)
      rw [htake] at hxs
      have nm2 : ∀ {a : Nat}, a ≠ S → a ≠ dS → a ∉ [(S, instObj 155 dS), (dS, dictOf [] 0)].map (·.1) := fun h1 h2 => by
        simp only [List.map_cons, List.map_nil, List.mem_cons, List.not_mem_nil, or_false, not_or]; exact ⟨h1, h2⟩
      refine z _ _ V lt dn lf df on kn tv nT od xs fv nF tl' AT f1 f2 hon hK htv hod hfv hl32 ?h29 ldn ldf hneA hneB hneC (keepsM at0 hg FP NP [dS] ?kp) (fun q hq => (NP q hq).1) ?fr htup
      case h29 =>
        intro i
        rw [hxs]; exact iota29 f1 f6 i
      case kp =>
        intro q hq
        rcases List.mem_cons.mp hq with rfl | hq
        · exact .inr (.head _)
        · rw [List.mem_singleton.mp hq]; exact .inl (.head _)
      case fr =>
        refine allA ?_ fun q hq => ?_
        · refine allC ?_ (allC ?_ (allC ?_ (allC ?_ (allE))))
          · exact freshOf hg (NP (lt, _) (.tail _ (.tail _ (.head _)))).2.2 (nm2 hneA.2.1 hneA.2.2.1)
          · exact freshOf hg (NP (dn, _) (.tail _ (.tail _ (.tail _ (.head _))))).2.2 (nm2 hneA.2.2.2.1 hneA.2.2.2.2)
          · exact freshOf hg (NP (lf, _) (.tail _ (.tail _ (.tail _ (.tail _ (.head _)))))).2.2 (nm2 hneB.2.1 hneB.2.2.1)
          · exact freshOf hg (NP (df, _) (.tail _ (.tail _ (.tail _ (.tail _ (.tail _ (.head _))))))).2.2 (nm2 hneB.2.2.2.1 hneB.2.2.2.2)
        · have hm : q ∈ [(S, instObj 155 dS), (dS, syO w V lt dn lf df), (lt, listOf tv.toArray nT), (dn, on), (lf, listOf fv.toArray nF), (df, od)] ++ tl' := List.mem_append_right _ hq
          have hc := htup q hq
          refine freshOf hg (NP q hm).2.2 (nm2 (other_cls NP hm (.head _) ?_) (other_cls NP hm (.tail _ (.head _)) ?_))
          · rw [hc]; exact Ne.symm inst_cls
          · rw [hc]; exact Ne.symm dictO_cls
end
section
theorem other_obj {g h : Heap} {L a b : Addr} {o o' : Obj} {l : List (Addr × Obj)} (N : News g L h l) (ha : (a, o) ∈ l) (hb : (b, o') ∈ l) (hc : o ≠ o') : a ≠ b := by
  intro e
  have h1 := (N _ ha).1
  have h2 := (N _ hb).1
  dsimp only at h1 h2
  rw [e, h2] at h1
  exact hc (Option.some.inj h1).symm
/-- what stands wherever the base and these tuples stand -/
def Given (g : Heap) (T : List (Addr × Obj)) (P : Heap → Prop) : Prop := ∀ H, (∀ b o, g.get? b = some o → H.get? b = some o) → (∀ q ∈ T, H.get? q.1 = some q.2) → P H
theorem Given.mono {g : Heap} {T T' : List (Addr × Obj)} {P : Heap → Prop} (h : Given g T P) (hs : ∀ q ∈ T, q ∈ T') : Given g T' P := fun H a b => h H a fun q hq => b q (hs q hq)
theorem Given.use {g h : Heap} {L : Addr} {m : Str → Option Value} {T news : List (Addr × Obj)} {P : Heap → Prop} (x : Given g T P) (F : Fr g L h m) (N : News g L h news) (hs : ∀ q ∈ T, q ∈ news) : P h := x h F.keep fun q hq => (N q (hs q hq)).1
structure RowIn (g : Heap) (T : List (Addr × Obj)) (r : Addr) (i : Ins) : Prop where
  obj : ∃ o, g.get? r = some o ∨ (r, o) ∈ T
  ins : Given g T fun H => IsIns fsN H r i
  ok : InsOk i
theorem RowIn.mono {g : Heap} {T T' : List (Addr × Obj)} {r : Addr} {i : Ins} (h : RowIn g T r i) (hs : ∀ q ∈ T, q ∈ T') : RowIn g T' r i := by
  obtain ⟨⟨o, ho⟩, a, b⟩ := h
  exact ⟨⟨o, ho.imp id fun q => hs _ q⟩, a.mono hs, b⟩
theorem RowIn.same {g H h : Heap} {T : List (Addr × Obj)} {r : Addr} {i : Ins} (x : RowIn g T r i) (a : ∀ b o, g.get? b = some o → H.get? b = some o) (b : ∀ q ∈ T, H.get? q.1 = some q.2) (a' : ∀ b o, g.get? b = some o → h.get? b = some o) (b' : ∀ q ∈ T, h.get? q.1 = some q.2) : ∀ o, H.get? r = some o → h.get? r = some o := by
  obtain ⟨⟨o, ho⟩, _, _⟩ := x
  intro o' e
  rcases ho with ho | ho
  · have := a _ _ ho; rw [e] at this; rw [this]; exact a' _ _ ho
  · have := b _ ho; dsimp only at this; rw [e] at this; rw [this]; exact b' _ ho
inductive RowsG (g : Heap) (T : List (Addr × Obj)) : List Value → List Ins → Prop
  | nil : RowsG g T [] []
  | cons {r : Addr} {i : Ins} {vs : List Value} {is : List Ins} : RowIn g T r i → RowsG g T vs is → RowsG g T (.ref r :: vs) (i :: is)
theorem RowsG.mono {g : Heap} {T T' : List (Addr × Obj)} {vs : List Value} {is : List Ins} (h : RowsG g T vs is) (hs : ∀ q ∈ T, q ∈ T') : RowsG g T' vs is := by
  induction h with
  | nil => exact .nil
  | cons a _ ih => exact .cons (a.mono hs) ih
theorem RowsG.snoc {g : Heap} {T : List (Addr × Obj)} {vs : List Value} {is : List Ins} {r : Addr} {i : Ins} (h : RowsG g T vs is) (x : RowIn g T r i) : RowsG g T (vs ++ [.ref r]) (is ++ [i]) := by
  induction h with
  | nil => exact .cons x .nil
  | cons a _ ih => exact .cons a ih
theorem RowsG.length {g : Heap} {T : List (Addr × Obj)} {vs : List Value} {is : List Ins} (h : RowsG g T vs is) : vs.length = is.length := by
  induction h with
  | nil => rfl
  | cons _ _ ih => simp [ih]
theorem RowsG.are {g h : Heap} {T : List (Addr × Obj)} {vs : List Value} {is : List Ins} (x : RowsG g T vs is) (a : ∀ b o, g.get? b = some o → h.get? b = some o) (b : ∀ q ∈ T, h.get? q.1 = some q.2) : RowsAre h vs is := by
  induction x with
  | nil => exact .nil
  | cons y _ ih => exact .cons (y.ins h a b) y.ok ih
theorem RowsG.ok {g : Heap} {T : List (Addr × Obj)} {vs : List Value} {is : List Ins} (x : RowsG g T vs is) : ∀ i ∈ is, InsOk i := by
  induction x with
  | nil => intro i hi; cases hi
  | cons y _ ih =>
    intro i hi
    rcases List.mem_cons.mp hi with rfl | hi
    · exact y.ok
    · exact ih i hi
theorem RowsG.at {g : Heap} {T : List (Addr × Obj)} {vs : List Value} {is : List Ins} (x : RowsG g T vs is) : ∀ {j : Nat} (hj : j < is.length), ∃ r, vs[j]? = some (.ref r) ∧ RowIn g T r is[j] := by
  induction x with
  | nil => intro j hj; cases hj
  | @cons r i vs is a _ ih =>
    intro j hj
    cases j with
    | zero => exact ⟨r, rfl, a⟩
    | succ j => exact ih (by simpa using hj)
open Classical in
theorem absorb {g h : Heap} {L : Addr} {m : Str → Option Value} {tl : List (Addr × Obj)} (F : Fr g L h m) (ht : ∀ q ∈ tl, h.get? q.1 = some q.2 ∧ ∃ l, q.2 = tupO l) :
    ∃ tl', (∀ q ∈ tl', q.2.cls = .type "tuple") ∧ News g L h tl' ∧ ∀ q ∈ tl, g.get? q.1 = some q.2 ∨ q ∈ tl' := by
  refine ⟨tl.filter fun q => decide (g.get? q.1 = none), fun q hq => ?_, fun q hq => ?_, fun q hq => ?_⟩
  · obtain ⟨l, e⟩ := (ht q (List.mem_filter.mp hq).1).2
    rw [e]
  · obtain ⟨hq, hn⟩ := List.mem_filter.mp hq
    obtain ⟨e, l, hl⟩ := ht q hq
    refine ⟨e, ?_, of_decide_eq_true hn⟩
    intro q'
    obtain ⟨oL, es, ep, h1, h2, _⟩ := F.ns
    rw [q', h1] at e
    have := Option.some.inj e
    rw [this, hl] at h2
    cases h2
  · cases hg : g.get? q.1 with
    | none => exact .inr (List.mem_filter.mpr ⟨hq, decide_eq_true hg⟩)
    | some o =>
      have := F.keep _ _ hg
      rw [(ht q hq).1] at this
      exact .inl this.symm
theorem rg_obj {h : Heap} {a : Addr} {b : Bool} {k : Int} (x : IsRg h a b k) : ∃ o, (h.get? a = some o ∧ ∃ l, o = tupO l) ∧ ∀ H : Heap, H.get? a = some o → IsRg H a b k := by
  obtain ⟨t, t', e⟩ := x
  exact ⟨_, ⟨e, _, rfl⟩, fun H e' => ⟨t, t', e'⟩⟩
theorem ins_objs {fs : Int → Int} {h : Heap} {r : Addr} {i : Ins} (x : IsIns fs h r i) : ∃ tl : List (Addr × Obj), (∀ q ∈ tl, h.get? q.1 = some q.2 ∧ ∃ l, q.2 = tupO l) ∧ (∃ o, (r, o) ∈ tl) ∧ ∀ H : Heap, (∀ q ∈ tl, H.get? q.1 = some q.2) → IsIns fs H r i := by
  obtain ⟨t, ops, tl, e, h1, h2⟩ := x.objs
  refine ⟨(r, _) :: tl, fun q hq => ?_, ⟨_, .head _⟩, fun H b => h2 H (b _ (.head _)) fun q hq => b q (.tail _ hq)⟩
  rcases List.mem_cons.mp hq with rfl | hq
  · exact ⟨e, _, rfl⟩
  · exact (h1 q hq).2
theorem rowIn_of {g h : Heap} {L r : Addr} {m : Str → Option Value} {i : Ins} (F : Fr g L h m) (x : IsIns fsN h r i) (ok : InsOk i) : ∃ tl', (∀ q ∈ tl', q.2.cls = .type "tuple") ∧ News g L h tl' ∧ RowIn g tl' r i := by
  obtain ⟨tl, h1, ⟨o, ho⟩, h3⟩ := ins_objs x
  obtain ⟨tl', c, n, k⟩ := absorb F h1
  refine ⟨tl', c, n, ⟨o, k _ ho⟩, fun H a b => h3 H fun q hq => ?_, ok⟩
  rcases k q hq with e | e
  · exact a _ _ e
  · exact b _ e
theorem news_app {g h : Heap} {L : Addr} {a b : List (Addr × Obj)} (x : News g L h a) (y : News g L h b) : News g L h (a ++ b) := fun q hq => (List.mem_append.mp hq).elim (x q) (y q)
section
variable {prog : Program} {w : World} {A : Around} {E : Value → Shared → Prop} {s : Shared} {h₀ : Heap} {L : Addr} {m : Str → Option Value} {env : Env}
theorem compEnd_mono {I C D : Addr} {s₁ s₂ : Shared} {oI oC oD : Obj} {S : List (Addr × Obj) → Prop} {r r' : Value → List (Addr × Obj) → Prop} {y : Value} (h : ∀ y n, r y n → r' y n) (x : LCg.CompEnd h₀ L m s₁ I oI C oC D oD S r y s₂) : LCg.CompEnd h₀ L m s₁ I oI C oC D oD S r' y s₂ := by
  obtain ⟨h', tk, n', a, b, c, d, e, f⟩ := x
  exact ⟨h', tk, n', a, b, c, d, e, h _ _ f⟩
theorem cell_store {M : Model} {c : Addr} {o : Obj} {v₀ : Option Value} {v : Value} {x : Str} {l : List (Addr × Obj)} {Q : Unit → Shared → Prop} (F : Fr h₀ L s.heap m) (N : News h₀ L s.heap ((c, o) :: l)) (hd : o.data = .cell v₀) (off : ∀ p ∈ l, p.1 ≠ c) (hk : env.scope.kind = .function) (hx : env.kindOf x = some .cell) (hc : env.cells.lookup x = some c)
    (h : ∀ h' o', Fr h₀ L h' m → News h₀ L h' ((c, o') :: l) → o'.data = .cell (some v) → Q () { s with heap := h' }) : wpAny M A (storeName env x v) Q E s := by
  have hmem := N (c, o) (.head _)
  refine wpAny_storeName_cell hk hx hc ⟨o, hmem.1, hd⟩ fun h' hv hs => ?_
  obtain ⟨o', ho', hd'⟩ := hv
  refine h h' o' ⟨F.ns.sameBut hs (Ne.symm hmem.2.1), fun b ob e => (hs.2 b (fun q => ?_)).trans (F.keep b ob e), F.above⟩ (fun p hp => ?_) hd'
  · rw [q, hmem.2.2] at e; cases e
  · rcases List.mem_cons.mp hp with rfl | hp
    · exact ⟨ho', hmem.2⟩
    · have := N p (.tail _ hp)
      exact ⟨(hs.2 _ (off p hp)).trans this.1, this.2⟩
theorem compInv {elt : Expr} {x : Str} {scope : Scope} {cl : List (Str × Addr)} {S : List (Addr × Obj) → Prop} {P : Nat → Value → Prop} {Fin : List Value → List (Addr × Obj) → Prop} {n : Nat} (Inv : Nat → List Value → List (Addr × Obj) → Prop)
    (hstep : ∀ i ys news, i < n → Inv i ys news → ∀ v I oI C oC D m₂ h tk (E' : Value → Shared → Prop), P i v → LCg.NsObj oC m₂ → m₂ x = some v → Fr h₀ L h m → News h₀ L h ((I, oI) :: (C, oC) :: (D, LCg.lst ys) :: news) → LCg.Off3 I C D news → ((@Ne Nat I C) ∧ (@Ne Nat I D) ∧ (@Ne Nat C D)) →
      wpAny (model prog w) A (eval elt (compEnvC scope cl C env)) (LCg.CompEnd h₀ L m { s with heap := h, toks := tk } I oI C oC D (LCg.lst ys) S (fun y news' => Inv (i + 1) (ys ++ [y]) news')) E' { s with heap := h, toks := tk })
    (hend : ∀ ys news, Inv n ys news → Fin ys news) :
    ∀ (k i : Nat) (ys : List Value) (news : List (Addr × Obj)), i + k = n → Inv i ys news → LCg.CompRest prog w A h₀ L m env elt x scope cl s S P Fin k i ys news
  | 0, i, ys, news, e, h => LCg.CompRest.zero (hend ys news (by rw [← e]; exact h))
  | k + 1, i, ys, news, e, h => LCg.CompRest.succ fun v I oI C oC D m₂ h' tk E' hP hC hx F N o3 ne => wpAny_mono (hstep i ys news (by omega) h v I oI C oC D m₂ h' tk E' hP hC hx F N o3 ne) (fun y s₂ q => compEnd_mono (fun y' n' z => compInv Inv hstep hend k (i + 1) _ n' (by omega) z) q) fun _ _ e => e
theorem ldCellC {M : Model} {C c : Addr} {news : List (Addr × Obj)} {scope : Scope} {cl : List (Str × Addr)} {x : Str} {pos : Pos} {v : Value} {o : Obj} {Q : Value → Shared → Prop} (N : News h₀ L s.heap news) (hc : cl.lookup x = some c) (hm : (c, o) ∈ news) (hd : o.data = .cell (some v)) (h : Q v s)
    (hk : (compEnvC scope cl C env).scope.kind = .function) (hx : (compEnvC scope cl C env).kindOf x = some .cell) (hb : (x == ("__debug__" : Str)) = false := by decide) :
    wpAny M A (eval (.Name x pos) (compEnvC scope cl C env)) Q E s := wpAny_Name (wpAny_loadName_cell hk hx hc ⟨o, N.get hm, hd⟩ h) hb
theorem ldOwnC {M : Model} {C : Addr} {oC : Obj} {m₂ : Str → Option Value} {news : List (Addr × Obj)} {scope : Scope} {cl : List (Str × Addr)} {x : Str} {pos : Pos} {v : Value} {Q : Value → Shared → Prop} (N : News h₀ L s.heap news) (hm : (C, oC) ∈ news) (hC : LCg.NsObj oC m₂) (hx : m₂ x = some v) (h : Q v s)
    (hk : (compEnvC scope cl C env).scope.kind = .function) (hl : (compEnvC scope cl C env).kindOf x = some .local) (hd : (x == ("__debug__" : Str)) = false := by decide) :
    wpAny M A (eval (.Name x pos) (compEnvC scope cl C env)) Q E s := wpAny_Name (wpAny_loadName_local hk hl (hC.ns (N _ hm).1) hx h) hd
end
theorem idx29 {AT AT' : List Str} (h29 : AT.length = 29) (ht : Str.ofString "t" ∉ AT) (h : AT' = AT ∨ AT' = AT ++ [Str.ofString "t"]) : AT'.idxOf (Str.ofString "t") = 29 ∧ addT AT' (Str.ofString "t") = AT ++ [Str.ofString "t"] ∧ AT'.length ≤ 90 := by
  rcases h with rfl | rfl
  · exact ⟨by rw [List.idxOf_eq_length ht, h29], if_neg ht, by omega⟩
  · refine ⟨?_, if_pos (by simp), by simp [h29]⟩
    rw [List.idxOf_append, if_neg ht, h29]
    simp
theorem news3 {g h : Heap} {L a b c : Addr} {o1 o2 o3 : Obj} {G : Prop} (_N : News g L h [(a, o1), (b, o2), (c, o3)]) (k : ∀ p1 p2 p3, p1 = o1 → p2 = o2 → p3 = o3 → G) : G := k o1 o2 o3 rfl rfl rfl
theorem nameW {w : World} {base : Heap} {p : Program} {loose : List Str} {mean : ExcName → Option Value} {mg mb : Str → Option Value} {G : Prop} (_C : Wd w base p loose mean mg mb) (k : ∀ w', w' = w → G) : G := k w rfl
theorem pre4 {g h : Heap} {L : Addr} {x1 x2 x3 x4 : Addr × Obj} {l : List (Addr × Obj)} {G : Prop} (_N : News g L h (x1 :: x2 :: x3 :: x4 :: l)) (k : ∀ pre, pre = [x1, x2, x3, x4] → G) : G := k _ rfl
theorem newNeOf {g h : Heap} {L r : Addr} {news : List (Addr × Obj)} (N : News g L h news) (hn : h.get? r = none) : ∀ p ∈ news, p.1 ≠ r := fun p hp e => by
  have := (N p hp).1
  rw [e, hn] at this; cases this
section
variable {w : World} {A A₀ : Around} {base g : Heap} {outer : List Env} {env : Env} {s : Shared} {p : Program} {loose : List Str} {mean : ExcName → Option Value} {mg mb : Str → Option Value}
  {R : Result → Shared → Prop} {Q E : Value → Shared → Prop} {L : Addr} {m : Str → Option Value} {news : List (Addr × Obj)}
theorem sym_use (B : Below A₀ base outer g) (F : Fr g L s.heap m) (N : News g L s.heap news) (C : Wd w base p loose mean mg mb)
    (hh : A.handled = none) (hA : A.frames = some (env :: outer)) (hf : env.frame = some L) (hke : env.scope.kind = .function) (X : (hd0.heap_1_39 w.params).In g) (hd : A.depth ≤ 558) (hu : A.units ≤ 1590)
    (z : ∀ S dS h' tk' V lt dn lf df on kn tv nT od xs fv nF tl AT, (AT : List Str).length = 29 → Str.ofString "t" ∉ AT → on.IsDictOf (strKind PP w) kn → NumAre 0 AT kn → (tv : List Value).length = AT.length → TDict w od xs → FvIn tl fv xs → xs.length = 32 → (∀ i : Int, [29, i] ∉ xs.map (·.1)) → (dn == sysModules) = false → (df == sysModules) = false →
      (@Ne Nat lt dn ∧ @Ne Nat lt S ∧ @Ne Nat lt dS ∧ @Ne Nat dn S ∧ @Ne Nat dn dS) → (@Ne Nat lf df ∧ @Ne Nat lf S ∧ @Ne Nat lf dS ∧ @Ne Nat df S ∧ @Ne Nat df dS) → (@Ne Nat lt lf ∧ @Ne Nat lt df ∧ @Ne Nat dn lf ∧ @Ne Nat dn df) → (∀ q ∈ tl, q.2.cls = .type "tuple") →
      Fr g L h' m → News g L h' ([(S, instObj 155 dS), (dS, syO w V lt dn lf df), (lt, listOf tv.toArray nT), (dn, on), (lf, listOf (fv : List Value).toArray nF), (df, od)] ++ (tl ++ news)) → (∀ q ∈ news, (q.1 ≠ S ∧ q.1 ≠ dS) ∧ q.1 ∉ [lt, dn, lf, df] ∧ ∀ p ∈ tl, p.1 ≠ q.1) → Q (.ref S) { s with heap := h', toks := tk' }) :
    wpAny (MM w) A (call (.ref 155) []) Q E s := by
  refine' call_cls F X N ?k4 ?k5 ?k6 ?_
  case k4 => k_is
  case k5 => k_is
  case k6 => k_is
  intro S dS h₁ F₁ N₁ l1 l2
  have hne : @Ne Nat S dS := Ne.symm (Nat.ne_of_lt l2)
  have N2 : News g L h₁ [(S, instObj 155 dS), (dS, dictOf [] 0)] := newsSub N₁ fun p hp => by
    rcases List.mem_cons.mp hp with rfl | hp
    · exact .head _
    · rw [List.mem_singleton.mp hp]; exact .tail _ (.head _)
  have hun : (A.under (Code.builtin "type.__call__" ⟨[Value.ref 155], []⟩)).units ≤ 1600 := by
    show A.units + _ ≤ 1600
    have : (Code.builtin "type.__call__" ⟨[Value.ref 155], []⟩).cUnits ≤ 10 := Nat.le_of_ble_eq_true rfl
    omega
  refine syminit_spec (Rdy.nest (A := A.under (Code.builtin "type.__call__" ⟨[Value.ref 155], []⟩)) B F₁ N2 hh hA hf hke) C ?a3 hun hne ?_
  case a3 => show A.depth + 1 ≤ 560; omega
  intro h' tk' V lt dn lf df on kn tv nT od xs fv nF tl AT f1 f2 f3 f4 f5 f6 f7 f8 f9 f10 f11 f12 f13 f14 hK hat hnew htup
  have N3 : News g L h₁ [(dS, dictOf [] 0)] := newsSub N2 fun p hp => .tail _ hp
  have q1 : h₁.get? lt = none := hnew (lt, _) (List.mem_append_left _ (.head _))
  have q2 : h₁.get? dn = none := hnew (dn, _) (List.mem_append_left _ (.tail _ (.head _)))
  have q3 : h₁.get? lf = none := hnew (lf, _) (List.mem_append_left _ (.tail _ (.tail _ (.head _))))
  have q4 : h₁.get? df = none := hnew (df, _) (List.mem_append_left _ (.tail _ (.tail _ (.tail _ (.head _)))))
  refine ⟨rfl, z S dS h' tk' V lt dn lf df on kn tv nT od xs fv nF tl AT f1 f2 f3 f4 f5 f6 f7 f8 f9 f10 f11 f12 f13 f14 htup (frAfter F₁ N3 hK) (fun q hq => ?_) (fun q hq => ?_)⟩
  · rcases List.mem_append.mp hq with h1 | hq
    · refine ⟨hat q (List.mem_append_left _ h1), ?_⟩
      clear hq
      revert q
      refine allC ?_ (allC ?_ (allC ?_ (allC ?_ (allC ?_ (allC ?_ (allE))))))
      · exact (N₁ _ (.head _)).2
      · exact (N₁ (dS, _) (.tail _ (.head _))).2
      · exact ⟨newNe F₁ q1, newNone F₁ q1⟩
      · exact ⟨newNe F₁ q2, newNone F₁ q2⟩
      · exact ⟨newNe F₁ q3, newNone F₁ q3⟩
      · exact ⟨newNe F₁ q4, newNone F₁ q4⟩
    · rcases List.mem_append.mp hq with hq | hq
      · have qn := hnew q (List.mem_append_right _ hq)
        exact ⟨hat q (List.mem_append_right _ hq), newNe F₁ qn, newNone F₁ qn⟩
      · have hq' := N₁ q (.tail _ (.tail _ hq))
        exact ⟨hK _ _ hq'.1 (by simpa using Nat.ne_of_lt (l1 q hq)), hq'.2⟩
  · have hq' := (N₁ q (.tail _ (.tail _ hq))).1
    have hlt := l1 q hq
    refine ⟨⟨Nat.ne_of_lt (Nat.lt_trans hlt l2), Nat.ne_of_lt hlt⟩, ?_, fun p hp e => ?_⟩
    rotate_left
    · have := hnew p (List.mem_append_right _ hp)
      rw [e, hq'] at this; cases this
    simp only [List.mem_cons, List.not_mem_nil, or_false, not_or]
    refine ⟨fun e => ?_, fun e => ?_, fun e => ?_, fun e => ?_⟩
    · rw [e, q1] at hq'; cases hq'
    · rw [e, q2] at hq'; cases hq'
    · rw [e, q3] at hq'; cases hq'
    · rw [e, q4] at hq'; cases hq'
end
theorem relay {g h : Heap} {L : Addr} {x1 x2 x3 x4 x5 x6 y1 y2 y3 y4 : Addr × Obj} {tl : List (Addr × Obj)} (N : News g L h ([x1, x2, x3, x4, x5, x6] ++ (tl ++ [y1, y2, y3, y4]))) : News g L h (y3 :: y2 :: y4 :: y1 :: x1 :: x2 :: x3 :: x4 :: x5 :: x6 :: tl) := newsSel (l := [x1, x2, x3, x4, x5, x6, y1, y2, y3, y4]) (fun p hp => N p (by
  rcases List.mem_append.mp hp with hp | hp
  · rcases List.mem_append.mp (show p ∈ [x1, x2, x3, x4, x5, x6] ++ [y1, y2, y3, y4] from hp) with hp | hp
    · exact List.mem_append_left _ hp
    · exact List.mem_append_right _ (List.mem_append_right _ hp)
  · exact List.mem_append_right _ (List.mem_append_left _ hp))) [8, 7, 9, 6, 0, 1, 2, 3, 4, 5] rfl
theorem off10 {c a1 a2 a3 S dS lt dn lf df : Addr} {p1 p2 p3 p4 p5 p6 p7 p8 p9 : Obj} {tl : List (Addr × Obj)} (h1 : a1 ≠ c) (h2 : a2 ≠ c) (h3 : a3 ≠ c) (h : (c ≠ S ∧ c ≠ dS) ∧ c ∉ [lt, dn, lf, df] ∧ ∀ p ∈ tl, p.1 ≠ c) :
    ∀ p ∈ (a1, p1) :: (a2, p2) :: (a3, p3) :: (S, p4) :: (dS, p5) :: (lt, p6) :: (dn, p7) :: (lf, p8) :: (df, p9) :: tl, p.1 ≠ c := by
  obtain ⟨⟨q1, q2⟩, q3, q4⟩ := h
  exact offC h1 (offC h2 (offC h3 (offC (Ne.symm q1) (offC (Ne.symm q2) (offC (fun e => q3 (memK 0 (congrArg some e))) (offC (fun e => q3 (memK 1 (congrArg some e))) (offC (fun e => q3 (memK 2 (congrArg some e))) (offC (fun e => q3 (memK 3 (congrArg some e))) q4))))))))
theorem off1m {D : Addr} : ∀ {l : List (Addr × Obj)}, LCg.Off1 D l → ∀ p ∈ l, p.1 ≠ D
  | [], _, _, h => nomatch h
  | _ :: _, x, p, h => by
    rcases List.mem_cons.mp h with rfl | h
    · exact x.1
    · exact off1m x.2 p h
theorem relayF {g h : Heap} {L : Addr} {d y1 y2 y3 y4 x1 x2 x3 x4 x5 x6 : Addr × Obj} {tl : List (Addr × Obj)} (N : News g L h (d :: ([y1, y2, y3, y4] ++ ([x1, x2, x3, x4, x5, x6] ++ tl)))) : News g L h (y2 :: d :: y4 :: y1 :: y3 :: x1 :: x2 :: x5 :: tl) := newsSel (l := [d, y1, y2, y3, y4, x1, x2, x3, x4, x5, x6]) N [2, 0, 4, 1, 3, 5, 6, 9] rfl
theorem relayQ {g h : Heap} {L : Addr} {y2 d y4 y1 y3 x1 x2 x5 : Addr × Obj} {tl : List (Addr × Obj)} (N : News g L h (y2 :: d :: y4 :: y1 :: y3 :: x1 :: x2 :: x5 :: tl)) : News g L h (y4 :: y2 :: d :: y1 :: y3 :: x1 :: x2 :: x5 :: tl) := newsSel (l := [y2, d, y4, y1, y3, x1, x2, x5]) N [2, 0, 1, 3, 4, 5, 6, 7] rfl
theorem after1 {g h h' : Heap} {L q : Addr} {o o' : Obj} {l : List (Addr × Obj)} (N : News g L h ((q, o) :: l)) (off : ∀ p ∈ l, p.1 ≠ q) (hK : Keeps [q] h h') (hq : h'.get? q = some o') : News g L h' ((q, o') :: l) := fun p hp => by
  rcases List.mem_cons.mp hp with rfl | hp
  · exact ⟨hq, (N _ (.head _)).2⟩
  · have := N p (.tail _ hp)
    exact ⟨hK _ _ this.1 (by simpa using off p hp), this.2⟩
end
section
variable {w : World} {A A₀ : Around} {base g : Heap} {outer : List Env} {env : Env} {s : Shared} {p : Program} {loose : List Str} {mean : ExcName → Option Value} {mg mb : Str → Option Value}
  {R : Result → Shared → Prop} {Q E : Value → Shared → Prop} {L : Addr} {m : Str → Option Value} {news : List (Addr × Obj)}
def YsN (i : Nat) (ys : List Value) : Prop := ys.length = i ∧ ∀ j, j < i → ∃ t, ys[j]? = some (.int (32 + (j : Int)) t)
theorem YsN.snoc {i : Nat} {ys : List Value} {t : Tok} (h : YsN i ys) : YsN (i + 1) (ys ++ [.int (32 + (i : Int)) t]) := by
  refine ⟨by simp [h.1], fun j hj => ?_⟩
  by_cases e : j = i
  · subst e
    exact ⟨t, by rw [List.getElem?_append_right (by rw [h.1]; exact Nat.le_refl _), h.1, Nat.sub_self]; rfl⟩
  · obtain ⟨t', q⟩ := h.2 j (by omega)
    exact ⟨t', by rw [List.getElem?_append_left (by rw [h.1]; omega)]; exact q⟩
theorem threeOf {α : Type} {l : List α} (h : l.length = 3) : ∃ a b c, l = [a, b, c] := by
  cases l with
  | nil => cases h
  | cons a l =>
    cases l with
    | nil => cases h
    | cons b l =>
      cases l with
      | nil => cases h
      | cons c l => exact ⟨a, b, c, by rw [List.eq_nil_of_length_eq_zero (Nat.succ.inj (Nat.succ.inj (Nat.succ.inj h)))]⟩
theorem YsN.three {ys : List Value} (h : YsN 3 ys) : ∃ t0 t1 t2, ys = [.int 32 t0, .int 33 t1, .int 34 t2] := by
  obtain ⟨hl, h⟩ := h
  obtain ⟨a, b, c, rfl⟩ := threeOf hl
  obtain ⟨t0, e0⟩ := h 0 (by decide)
  obtain ⟨t1, e1⟩ := h 1 (by decide)
  obtain ⟨t2, e2⟩ := h 2 (by decide)
  cases e0
  cases e1
  cases e2
  exact ⟨t0, t1, t2, rfl⟩
def FunN (tl : List (Addr × Obj)) (fv : List Value) (i : Nat) : Prop := ∀ j : Nat, j < i → ∃ a t t', fv[32 + j]? = some (.ref a) ∧ (a, tupO [.int 29 t, .int (j : Int) t']) ∈ tl
theorem FunN.snoc {tl : List (Addr × Obj)} {fv : List Value} {i : Nat} {r : Addr} {t t' : Tok} (h : FunN tl fv i) (hl : fv.length = 32 + i) : FunN ((r, tupO [.int 29 t, .int (i : Int) t']) :: tl) (fv ++ [.ref r]) (i + 1) := by
  intro j hj
  by_cases e : j = i
  · subst e
    exact ⟨r, t, t', by rw [List.getElem?_append_right (by omega), hl, Nat.sub_self]; rfl, .head _⟩
  · obtain ⟨a, u, u', q, hm⟩ := h j (by omega)
    exact ⟨a, u, u', by rw [List.getElem?_append_left (by omega)]; exact q, .tail _ hm⟩
theorem FunN.fun3 {tl : List (Addr × Obj)} {fv : List Value} {h : Heap} (x : FunN tl fv 3) (ht : ∀ q ∈ tl, h.get? q.1 = some q.2) : Fun3 h fv := by
  intro i h0 h3
  obtain ⟨j, rfl⟩ := Int.eq_ofNat_of_zero_le h0
  obtain ⟨a, t, t', e, hm⟩ := x j (Int.ofNat_lt.mp h3)
  exact ⟨a, t, t', e, ht _ hm⟩
structure SymI (w : World) (lt dn lf df : Addr) (AT : List Str) (i : Nat) (on : Obj) (kn : List (Str × Value)) (tv : List Value) (od : Obj) (xs : FKeys) (fv : List Value) (tl : List (Addr × Obj)) (AT' : List Str) : Prop where
  at' : AT' = AT ∨ AT' = AT ++ [Str.ofString "t"]
  pon : on.IsDictOf (strKind PP w) kn
  pkn : NumAre 0 AT' kn
  ptv : tv.length = AT'.length
  pod : TDict w od xs
  pfv : FvIn tl fv xs
  len : xs.length = 32 + i
  new : ∀ j : Int, (i : Int) ≤ j → [29, j] ∉ xs.map (·.1)
  tup : ∀ q ∈ tl, q.2.cls = .type "tuple"
  fn : FunN tl fv i
inductive Sym1 (w : World) (pre : List (Addr × Obj)) (V : SyT) (S dS lt dn lf df : Addr) (AT : List Str) (i : Nat) (ys : List Value) (news : List (Addr × Obj)) : Prop where
  | mk (on : Obj) (kn : List (Str × Value)) (tv : List Value) (nT : Nat) (od : Obj) (xs : FKeys) (fv : List Value) (nF : Nat) (tl : List (Addr × Obj)) (AT' : List Str)
      (en : news = pre ++ ([(S, instObj 155 dS), (dS, syO w V lt dn lf df), (lt, listOf (tv : List Value).toArray nT), (dn, on), (lf, listOf (fv : List Value).toArray nF), (df, od)] ++ tl))
      (hI : SymI w lt dn lf df AT i on kn tv od xs fv tl AT') (hp : ∀ q ∈ tl, ∀ a ∈ pre, q.1 ≠ a.1) (hy : YsN i ys)
theorem func_turn {S dS lt dn lf df I C D : Addr} {V : SyT} {AT : List Str} {i : Nat} {ys : List Value} {pre news : List (Addr × Obj)} {oI oC : Obj} {tt ti : Tok} {s₁ : Shared}
    (B : Below A₀ base outer g) (F : Fr g L s₁.heap m) (N : News g L s₁.heap ((I, oI) :: (C, oC) :: (D, LCg.lst ys) :: news)) (W : Wd w base p loose mean mg mb)
    (hh : A.handled = none) (hA : A.frames = some (env :: outer)) (hf : env.frame = some L) (hke : env.scope.kind = .function) (hd : A.depth ≤ 570) (hu : A.units ≤ 1700)
    (h29 : AT.length = 29) (ht : Str.ofString "t" ∉ AT) (ldn : (dn == sysModules) = false) (ldf : (df == sysModules) = false)
    (hne : @Ne Nat lt dn ∧ @Ne Nat lt S ∧ @Ne Nat lt dS ∧ @Ne Nat dn S ∧ @Ne Nat dn dS) (hne2 : @Ne Nat lf df ∧ @Ne Nat lf S ∧ @Ne Nat lf dS ∧ @Ne Nat df S ∧ @Ne Nat df dS) (hne3 : @Ne Nat lt lf ∧ @Ne Nat lt df ∧ @Ne Nat dn lf ∧ @Ne Nat dn df)
    (o3 : LCg.Off3 I C D news) (hpre : ∀ q ∈ pre, q.1 ∉ [lt, dn, lf, df]) (hi : i < 3) (J : Sym1 w pre V S dS lt dn lf df AT i ys news) (es : ∃ tk, s₁ = { s with heap := s₁.heap, toks := tk }) :
    wpAny (MM w) A (call (.ref 110) [.ref S, .str (Str.ofString "t") tt, .int (i : Int) ti]) (LCg.CompEnd g L m s I oI C oC D (LCg.lst ys) (fun _ => True) (fun y news' => Sym1 w pre V S dS lt dn lf df AT (i + 1) (ys ++ [y]) news')) E s₁ := by
  obtain ⟨on, kn, tv, nT, od, xs, fv, nF, tl, AT', rfl, X, hoff, hys⟩ := J
  obtain ⟨i1, i2, i3⟩ := idx29 h29 ht X.at'
  have o3m := o3.mem
  have mS : ∀ {q : Addr × Obj}, q ∈ [(S, instObj 155 dS), (dS, syO w V lt dn lf df), (lt, listOf tv.toArray nT), (dn, on), (lf, listOf fv.toArray nF), (df, od)] ++ tl → q ∈ pre ++ ([(S, instObj 155 dS), (dS, syO w V lt dn lf df), (lt, listOf tv.toArray nT), (dn, on), (lf, listOf fv.toArray nF), (df, od)] ++ tl) := fun hq => List.mem_append_right _ hq
  have m3 : ∀ {q : Addr × Obj}, q ∈ pre ++ ([(S, instObj 155 dS), (dS, syO w V lt dn lf df), (lt, listOf tv.toArray nT), (dn, on), (lf, listOf fv.toArray nF), (df, od)] ++ tl) → q ∈ (I, oI) :: (C, oC) :: (D, LCg.lst ys) :: (pre ++ ([(S, instObj 155 dS), (dS, syO w V lt dn lf df), (lt, listOf tv.toArray nT), (dn, on), (lf, listOf fv.toArray nF), (df, od)] ++ tl)) := fun hq => .tail _ (.tail _ (.tail _ hq))
  have kS : (S, instObj 155 dS) ∈ [(S, instObj 155 dS), (dS, syO w V lt dn lf df), (lt, listOf tv.toArray nT), (dn, on), (lf, listOf fv.toArray nF), (df, od)] ++ tl := .head _
  have kdS : (dS, syO w V lt dn lf df) ∈ [(S, instObj 155 dS), (dS, syO w V lt dn lf df), (lt, listOf tv.toArray nT), (dn, on), (lf, listOf fv.toArray nF), (df, od)] ++ tl := .tail _ (.head _)
  have klt : (lt, listOf tv.toArray nT) ∈ [(S, instObj 155 dS), (dS, syO w V lt dn lf df), (lt, listOf tv.toArray nT), (dn, on), (lf, listOf fv.toArray nF), (df, od)] ++ tl := .tail _ (.tail _ (.head _))
  have kdn : (dn, on) ∈ [(S, instObj 155 dS), (dS, syO w V lt dn lf df), (lt, listOf tv.toArray nT), (dn, on), (lf, listOf fv.toArray nF), (df, od)] ++ tl := .tail _ (.tail _ (.tail _ (.head _)))
  have klf : (lf, listOf fv.toArray nF) ∈ [(S, instObj 155 dS), (dS, syO w V lt dn lf df), (lt, listOf tv.toArray nT), (dn, on), (lf, listOf fv.toArray nF), (df, od)] ++ tl := .tail _ (.tail _ (.tail _ (.tail _ (.head _))))
  have kdf : (df, od) ∈ [(S, instObj 155 dS), (dS, syO w V lt dn lf df), (lt, listOf tv.toArray nT), (dn, on), (lf, listOf fv.toArray nF), (df, od)] ++ tl := .tail _ (.tail _ (.tail _ (.tail _ (.tail _ (.head _)))))
  have hct : od.cls ≠ .type "tuple" := by
    obtain ⟨es, ep, hx, _⟩ := X.pod
    rw [hx.1]; decide
  have nm4 : ∀ {a : Nat}, a ≠ lt → a ≠ dn → a ≠ lf → a ≠ df → a ∉ [lt, dn, lf, df] := fun h1 h2 h3 h4 => by
    simp only [List.mem_cons, List.not_mem_nil, or_false, not_or]; exact ⟨h1, h2, h3, h4⟩
  have htl4 : ∀ q ∈ tl, q.1 ∉ [lt, dn, lf, df] := by
    intro q hq
    have hqm := m3 (mS (List.mem_append_right _ hq))
    have hqc := X.tup q hq
    refine nm4 (other_cls N hqm (m3 (mS klt)) ?_) (other_cls N hqm (m3 (mS kdn)) ?_) (other_cls N hqm (m3 (mS klf)) ?_) (other_cls N hqm (m3 (mS kdf)) ?_)
    · rw [hqc]; show Value.type "tuple" ≠ Value.type "list"; decide
    · rw [hqc]; exact Ne.symm (dict_cls X.pon)
    · rw [hqc]; show Value.type "tuple" ≠ Value.type "list"; decide
    · rw [hqc]; exact Ne.symm hct
  have hrest : ∀ q ∈ (I, oI) :: (C, oC) :: (D, LCg.lst ys) :: (pre ++ tl), q.1 ∉ [lt, dn, lf, df] := by
    have a1 := o3m _ (mS klt)
    have a2 := o3m _ (mS kdn)
    have a3 := o3m _ (mS klf)
    have a4 := o3m _ (mS kdf)
    intro q hq
    rcases List.mem_cons.mp hq with rfl | hq
    · exact nm4 (Ne.symm a1.1) (Ne.symm a2.1) (Ne.symm a3.1) (Ne.symm a4.1)
    · rcases List.mem_cons.mp hq with rfl | hq
      · exact nm4 (Ne.symm a1.2.1) (Ne.symm a2.2.1) (Ne.symm a3.2.1) (Ne.symm a4.2.1)
      · rcases List.mem_cons.mp hq with rfl | hq
        · exact nm4 (Ne.symm a1.2.2) (Ne.symm a2.2.2) (Ne.symm a3.2.2) (Ne.symm a4.2.2)
        · rcases List.mem_append.mp hq with hq | hq
          · exact hpre q hq
          · exact htl4 q hq
  have N7 : News g L s₁.heap ([(S, instObj 155 dS), (dS, syO w V lt dn lf df), (lt, listOf tv.toArray nT), (dn, on), (lf, listOf fv.toArray nF), (df, od)] ++ ((I, oI) :: (C, oC) :: (D, LCg.lst ys) :: (pre ++ tl))) := newsSub N fun q hq => by
    rcases List.mem_append.mp hq with hq | hq
    · exact m3 (mS (List.mem_append_left _ hq))
    · rcases List.mem_cons.mp hq with rfl | hq
      · exact .head _
      · rcases List.mem_cons.mp hq with rfl | hq
        · exact .tail _ (.head _)
        · rcases List.mem_cons.mp hq with rfl | hq
          · exact .tail _ (.tail _ (.head _))
          · rcases List.mem_append.mp hq with hq | hq
            · exact m3 (List.mem_append_left _ hq)
            · exact m3 (mS (List.mem_append_right _ hq))
  refine func_use (rest := (I, oI) :: (C, oC) :: (D, LCg.lst ys) :: (pre ++ tl)) B F N7 W hh hA hf hke hd hu X.pon ldn X.pkn X.ptv i3 hne X.pod (X.pfv.keys N7 fun q hq => List.mem_append_right _ (.tail _ (.tail _ (.tail _ (List.mem_append_right _ hq))))) ldf X.pfv.length (by rw [X.len]; omega) (by rw [i1]; exact X.new _ (Int.le_refl _)) hne2 hne3 hrest ?_
  intro t' r t1 t2 tk1 h' tk' on' kn' tv' nT' od' nF' e1 e2 e3 e4 F' N' hrest' hfr
  obtain ⟨tk0, es⟩ := es
  rw [es]
  rw [i1] at e4 N'
  rw [i2] at e2 e3
  refine LCg.CompEnd.intro (s₁ := s) F' N' (pre ++ ([(S, instObj 155 dS), (dS, syO w V lt dn lf df), (lt, listOf tv'.toArray nT'), (dn, on'), (lf, listOf (fv ++ [Value.ref r]).toArray nF'), (df, od')] ++ ((r, tupO [.int ((29 : Nat) : Int) t1, .int (i : Int) t2]) :: tl))) ?sub ?off trivial ⟨on', kn', tv', nT', od', _, _, nF', _, _, rfl, ⟨.inr rfl, e1, e2, e3, e4, .snoc (X.pfv.more fun q hq => .tail _ hq) (.head _), ?len, ?new, ?tup, ?fn⟩, ?ho, ?ys⟩
  case sub =>
    intro q hq
    rcases List.mem_cons.mp hq with rfl | hq
    · exact List.mem_append_right _ (.tail _ (.head _))
    · rcases List.mem_cons.mp hq with rfl | hq
      · exact List.mem_append_right _ (.tail _ (.tail _ (.head _)))
      · rcases List.mem_cons.mp hq with rfl | hq
        · exact List.mem_append_right _ (.tail _ (.tail _ (.tail _ (.head _))))
        · rcases List.mem_append.mp hq with hq | hq
          · exact List.mem_append_right _ (.tail _ (.tail _ (.tail _ (.tail _ (List.mem_append_left _ hq)))))
          · rcases List.mem_append.mp hq with hq | hq
            · exact List.mem_append_left _ hq
            · rcases List.mem_cons.mp hq with rfl | hq
              · exact List.mem_append_right _ (.head _)
              · exact List.mem_append_right _ (.tail _ (.tail _ (.tail _ (.tail _ (List.mem_append_right _ hq)))))
  case off =>
    refine LCg.Off3.of fun q hq => ?_
    rcases List.mem_append.mp hq with h1 | h1
    · exact o3m q (List.mem_append_left _ h1)
    · clear hq
      rcases List.mem_append.mp h1 with h2 | hq
      · clear h1
        revert q
        refine allC ?_ (allC ?_ (allC ?_ (allC ?_ (allC ?_ (allC ?_ (allE))))))
        · exact o3m _ (mS kS)
        · exact o3m _ (mS kdS)
        · have a := o3m _ (mS klt)
          exact a
        · have a := o3m _ (mS kdn)
          exact a
        · have a := o3m _ (mS klf)
          exact a
        · have a := o3m _ (mS kdf)
          exact a
      · rcases List.mem_cons.mp hq with rfl | hq
        · exact ⟨Ne.symm (hfr _ (.head _)), Ne.symm (hfr _ (.tail _ (.head _))), Ne.symm (hfr _ (.tail _ (.tail _ (.head _))))⟩
        · exact o3m q (mS (List.mem_append_right _ hq))
  case len => rw [List.length_append, X.len]; rfl
  case new =>
    intro j hj hm
    rw [List.map_append, List.mem_append] at hm
    rcases hm with hm | hm
    · exact X.new j (by omega) hm
    · have e := List.mem_singleton.mp hm
      have : j = (i : Int) := by
        have := (List.cons.inj (List.cons.inj e).2).1
        exact this
      omega
  case tup =>
    intro q hq
    rcases List.mem_cons.mp hq with rfl | hq
    · rfl
    · exact X.tup q hq
  case fn => exact X.fn.snoc (by rw [X.pfv.length, X.len])
  case ho =>
    intro q hq a ha
    rcases List.mem_cons.mp hq with rfl | hq
    · exact Ne.symm (hfr a (.tail _ (.tail _ (.tail _ (List.mem_append_left _ ha)))))
    · exact hoff q hq a ha
  case ys =>
    have e5 : ((xs.length : Nat) : Int) = 32 + (i : Int) := by rw [X.len]; omega
    rw [e5]
    exact hys.snoc
end
section
variable {w : World} {A A₀ : Around} {base g : Heap} {outer : List Env} {env : Env} {s : Shared} {p : Program} {loose : List Str} {mean : ExcName → Option Value} {mg mb : Str → Option Value}
  {Q E : Value → Shared → Prop} {L : Addr} {m : Str → Option Value}
theorem stored_newI {kvs : List (Int × Value)} {x : Int} {v : Value} (h : x ∉ kvs.map (·.1)) : stored kvs x v = kvs ++ [(x, v)] := by
  unfold stored
  rw [if_neg]
  rw [List.any_eq_true]
  rintro ⟨kv, hkv, he⟩
  exact h (List.mem_map.mpr ⟨kv, hkv, of_decide_eq_true he⟩)
def SzN (n : Nat) (kvs : List (Int × Value)) : Prop := kvs.length = n ∧ ∀ j (hj : j < kvs.length), ∃ t, kvs[j] = (32 + (j : Int), .int (j : Int) t)
abbrev FKs (v : Value) (k : Int) : Prop := ∃ i t, v = .int i t ∧ k = 32 + i
abbrev FVs (v y : Value) : Prop := ∃ i t t', v = .int i t ∧ y = .int i t'
theorem stored_szN {vs : List Value} {kvs : List (Int × Value)} (x : StoredAll FKs FVs vs kvs) : (∀ (j : Nat) (v : Value), vs[j]? = some v → ∃ t : Tok, v = Value.int (j : Int) t) → SzN vs.length kvs := by
  induction x with
  | nil => intro _; exact ⟨rfl, fun j hj => absurd hj (Nat.not_lt_zero _)⟩
  | @snoc l kvs v k y _ hk hy ih =>
    intro hv
    obtain ⟨h1, h2⟩ := ih fun j v e => hv j v (by
      rw [List.getElem?_append_left]
      · exact e
      · exact (List.getElem?_eq_some_iff.mp e).1)
    obtain ⟨t, ev⟩ := hv l.length v (by simp)
    obtain ⟨i, t1, e1, rfl⟩ := hk
    obtain ⟨i', t2, t3, e2, rfl⟩ := hy
    rw [ev] at e1 e2
    cases e1; cases e2
    have hn : (32 + (l.length : Int)) ∉ kvs.map (·.1) := by
      intro hm
      obtain ⟨q, hq, e⟩ := List.mem_map.mp hm
      obtain ⟨j, hj, rfl⟩ := List.getElem_of_mem hq
      obtain ⟨t4, e4⟩ := h2 j hj
      rw [e4] at e
      have : (32 + (j : Int)) = 32 + (l.length : Int) := e
      omega
    rw [stored_newI hn]
    refine ⟨by simp [h1], fun j hj => ?_⟩
    rw [List.length_append, List.length_singleton] at hj
    by_cases e : j < kvs.length
    · obtain ⟨t4, e4⟩ := h2 j e
      exact ⟨t4, by rw [List.getElem_append_left e]; exact e4⟩
    · have ej : j = kvs.length := by omega
      subst ej
      exact ⟨_, by rw [List.getElem_append_right (Nat.le_refl _)]; simp [h1]; rfl⟩
theorem SzN.three {kvs : List (Int × Value)} (h : SzN 3 kvs) : ∃ t0 t1 t2, kvs = szK t0 t1 t2 := by
  obtain ⟨hl, h⟩ := h
  obtain ⟨a, b, c, rfl⟩ := threeOf hl
  obtain ⟨t0, e0⟩ := h 0 (by show 0 < 3; decide)
  obtain ⟨t1, e1⟩ := h 1 (by show 1 < 3; decide)
  obtain ⟨t2, e2⟩ := h 2 (by show 2 < 3; decide)
  cases e0
  cases e1
  cases e2
  exact ⟨t0, t1, t2, rfl⟩
theorem assign_dict_range {kx vx iter : Expr} {x y : Str} {px py : Pos} {scope : Scope} {cl : List (Str × Addr)} {pos spos : Pos} {n : Nat} {Q : Flow → Shared → Prop}
    (_F₀ : Fr g L s.heap m)
    (hsw : swapsWith (.DictComp kx vx [⟨.Name x px, iter, [], 0⟩] scope pos) (some (.Name y py)) spos.line env = pure true) (hL : env.locals = L)
    (hclos : closureFor scope env = pure cl) (hcell : ∀ y ∈ scope.names, y.2 ≠ .cell) (hkind : scope.kind = .function)
    (hnames : ∀ y ∈ scope.names, y.2 = .local → scope.names.lookup y.1 = some .local) (hx : scope.names.lookup x = some .local)
    (hy : env.kindOf y = some .local) (hp : (env.scope.kind == .class || (env.scope.kind == .module && env.locals != env.globals)) = false)
    (h : wpAny (MM w) A (eval iter env) (fun xv s₁ => ∃ r t u v news, xv = .ref r ∧ A.handled = none ∧ IsRange s₁.heap r 0 (n : Int) 1 t u v ∧ n ≤ 100 ∧ Fr g L s₁.heap m ∧ News g L s₁.heap news ∧
      (∀ C (i : Nat) t s₂ m₂ E', i < n → s₂.heap.Ns C m₂ → m₂ x = some (.int (i : Int) t) → (∀ b o, s₁.heap.get? b = some o → s₂.heap.get? b = some o) →
        wpAny (MM w) A (eval kx (compEnvC scope cl C env)) (fun key s₃ => (∃ t', key = .int (32 + (i : Int)) t') ∧ PySem.Keeps s₂ s₃) E' s₂) ∧
      (∀ C (i : Nat) t s₂ m₂ E', i < n → s₂.heap.Ns C m₂ → m₂ x = some (.int (i : Int) t) → (∀ b o, s₁.heap.get? b = some o → s₂.heap.get? b = some o) →
        wpAny (MM w) A (eval vx (compEnvC scope cl C env)) (fun y s₃ => (∃ t', y = .int (i : Int) t') ∧ PySem.Keeps s₂ s₃) E' s₂) ∧
      (∀ D kvs h' tk, Fr g L h' (fun z => if z = y then some (.ref D) else m z) → News g L h' news → s₁.heap.get? D = none → h'.DictOf (intKind PP w) D kvs → SzN n kvs → Q .next { s₁ with heap := h', toks := tk })) E s)
    (hs : ∀ x, foldedSetIterable iter env x = pure x := by intro _; rfl) :
    wpAny (MM w) A (exec (.Assign [.Name y py] (.DictComp kx vx [⟨.Name x px, iter, [], 0⟩] scope pos) spos) env) Q E s := by
  subst hL
  rw [exec_Assign_Name_used _ _ _ _ hsw]
  refine wpAny_bind (wpAny_standAt (wpAny_bind ?_))
  show wpAny _ A (do let _ ← comprehension (.DictComp kx vx [⟨.Name x px, iter, [], 0⟩] scope pos) scope env _ newDict false (eval iter env) (some (assign (.Name y py) env))) _ _ s
  refine wpAny_bind (wpAny_mono (wpAny_comprehension_free (use := some (assign (.Name y py) env)) (Q := fun _ s' => Q .next s') rfl hs hclos hkind hnames
    (wpAny_mono h (fun xv s₁ h₁ => ?_) fun _ _ e => e)) (fun _ s' hq => wpAny_pure (wpAny_pure hq)) fun _ _ e => e)
  obtain ⟨r, t, u, v, news, rfl, hh, hr, hn, F, N, hk, hv, hQ⟩ := h₁
  have hrs : Builtin.Range.rangeSize 0 (n : Int) 1 = (n : Int) := by rw [rangeSize_nat]; omega
  refine wpAny_pyIter_range hr (small_one (by omega) (by omega) (by omega) (by omega)) ?_
  have W : Walks PP w A s₁.heap.objs.size [s₁.heap.objs.size] [s₁.heap.objs.size] n (fun i v => i < n ∧ ∃ t, v = .int (0 + i * 1) t) (fun i h => IsRangeIter h s₁.heap.objs.size (0 + (i : Nat) * 1) ((n : Int) - (i : Nat)) 1) := (Walks.range hh _ 0 1 n).bound
  have up : ∀ (s₃ : Shared), (∀ b o, b ∉ [s₁.heap.objs.size] → (s₁.heap.push { cls := .type "range_iterator", data := .fields #[rawInt 0, rawInt (Builtin.Range.rangeSize 0 (n : Int) 1), rawInt 1] }).get? b = some o → s₃.heap.get? b = some o) → ∀ b o, s₁.heap.get? b = some o → s₃.heap.get? b = some o :=
    fun s₃ hk b o e => hk b o (fun hm => by rw [List.mem_singleton.mp hm] at e; exact Nat.lt_irrefl _ (Heap.lt_size e)) (Heap.get?_push_of_some _ e)
  refine comp_block_walkCD (knd := intKind PP w) (RR := fun acc C => compPost (MM w) A E (some (assign (.Name y py) env)) (fun _ s' => Q .next s') acc C) W (by rw [sizeLine_eq]; omega) (fun _ => true) FKs FVs hcell hkind hx ?_ ?_ ⟨?_, ?_, ?_⟩ ?_
  · show IsRangeIter _ _ _ _ _
    rw [hrs]; simpa using Heap.get?_push_size _ rfl
  · intro b hb
    rw [List.mem_singleton.mp hb]
    show s₁.heap.objs.size < (s₁.heap.push _).objs.size
    rw [Heap.size_push]; exact Nat.lt_succ_self _
  · intro C i v s₃ m₃ E' _ _ _ _
    rw [List.forIn_nil]
    exact wpAny_pure ⟨rfl, _, _, rfl, fun _ _ e => e⟩
  · rintro C i v s₃ m₃ E' ⟨hi, t, rfl⟩ _ hn' hm hk'
    have e : (0 : Int) + (i : Int) * 1 = (i : Int) := by omega
    rw [e] at hm
    refine wpAny_mono (hk C i t s₃ m₃ E' hi hn' hm (up s₃ hk')) (fun key s₄ h₄ => ⟨?_, h₄.2⟩) fun _ _ e => e
    obtain ⟨⟨t', rfl⟩, _⟩ := h₄
    exact ⟨32 + (i : Int), intKind_is _ _ _ _, _, t, rfl, by rw [e]⟩
  · rintro C i v s₃ m₃ E' ⟨hi, t, rfl⟩ _ hn' hm hk'
    have e : (0 : Int) + (i : Int) * 1 = (i : Int) := by omega
    rw [e] at hm
    refine wpAny_mono (hv C i t s₃ m₃ E' hi hn' hm (up s₃ hk')) (fun key s₄ h₄ => ⟨?_, h₄.2⟩) fun _ _ e => e
    obtain ⟨⟨t', rfl⟩, _⟩ := h₄
    exact ⟨_, t, t', rfl, by rw [e]⟩
  · intro D C h' tk m' kvs vs hD hC hDC hnC hlD hlen hP hF hk'
    have hn : (s₁.heap.push { cls := .type "range_iterator", data := .fields #[rawInt 0, rawInt (Builtin.Range.rangeSize 0 (n : Int) 1), rawInt 1] }).Ns env.locals m := F.ns.push _
    have hLf : env.locals ∉ [s₁.heap.objs.size] := fun hm => Nat.lt_irrefl _ ((List.mem_singleton.mp hm) ▸ F.ns.lt)
    have hLC : env.locals ≠ C := by rintro rfl; obtain ⟨o, _, _, ho, _⟩ := hn; rw [hC] at ho; cases ho
    have hLD : env.locals ≠ D := by rintro rfl; obtain ⟨o, _, _, ho, _⟩ := hn; rw [hD] at ho; cases ho
    show wpAny _ A (assign (.Name y py) env (.ref D)) _ _ _
    refine wpAny_assign_Name (wpAny_storeName_local hy (hn.at' fun o e => hk' _ o hLf e) (fun h₂ hn₂ hs₂ => ?_) hp)
    refine ⟨m', hnC.sameBut hs₂ (Ne.symm hLC), fun h₃ hs₃ => ?_⟩
    have keep : ∀ b o, b ≠ env.locals → s₁.heap.get? b = some o → h₃.get? b = some o := fun b o hb e =>
      hs₃.extBut b o (by rintro rfl; rw [Heap.get?_push_of_some _ e] at hC; cases hC) (hs₂.extBut b o hb (up { s₁ with heap := h' } hk' b o e))
    have hF' : StoredAll FKs FVs vs kvs := by
      have : vs.filter (fun _ => true) = vs := List.filter_eq_self.mpr fun _ _ => rfl
      rw [this] at hF; exact hF
    have hz : SzN n kvs := by
      rw [← hlen]
      refine stored_szN hF' fun j v e => ?_
      obtain ⟨_, t, rfl⟩ := hP j v e
      exact ⟨t, by rw [show (0 : Int) + (j : Int) * 1 = (j : Int) by omega]⟩
    refine hQ D kvs h₃ _ ⟨hn₂.sameBut hs₃ hLC, fun b o e => keep b o (Nat.ne_of_lt (Nat.lt_of_lt_of_le (Heap.lt_size e) F.above)) (F.keep b o e), F.above⟩
      (fun p hp => ⟨keep _ _ (N p hp).2.1 (N p hp).1, (N p hp).2⟩) ?_ ((hlD.extBut hs₂.extBut (Ne.symm hLD)).extBut hs₃.extBut hDC) hz
    cases e : s₁.heap.get? D with
    | none => rfl
    | some o' => rw [Heap.get?_push_of_some _ e] at hD; cases hD
theorem lo_of {h : Heap} {d : Addr} (hs : ∃ o, g.get? sysModules = some o) (F : Fr g L h m) (hn : h.get? d = none) : (d == sysModules) = false := by
  obtain ⟨o, e⟩ := hs
  refine beq_eq_false_iff_ne.mpr fun q => ?_
  rw [q, F.keep _ _ e] at hn; cases hn
theorem sys_of {h : Heap} (T : Top p loose mean mg mb h) (hi : importsNone p = true) : ∃ o, h.get? sysModules = some o := by
  obtain ⟨_, ⟨o, _, _, e, _⟩, _⟩ := (T.seer hi).mods
  exact ⟨o, e⟩
theorem ldLocC {M : Model} {C : Addr} {m₂ : Str → Option Value} {scope : Scope} {cl : List (Str × Addr)} {x : Str} {pos : Pos} {v : Value} (hn : s.heap.Ns C m₂) (hx : m₂ x = some v) (h : Q v s)
    (hk : (compEnvC scope cl C env).scope.kind = .function) (hl : (compEnvC scope cl C env).kindOf x = some .local) (hd : (x == ("__debug__" : Str)) = false := by decide) :
    wpAny M A (eval (.Name x pos) (compEnvC scope cl C env)) Q E s := wpAny_Name (wpAny_loadName_local hk hl hn hx h) hd
theorem size_one (n : Nat) : Builtin.Range.rangeSize 1 (1 + (n : Int)) 1 = (n : Int) := by
  unfold Builtin.Range.rangeSize
  simp
  first | omega | (split <;> omega)
end
section
variable {w : World} {A A₀ : Around} {base g : Heap} {outer : List Env} {env : Env} {s : Shared} {p : Program} {loose : List Str} {mean : ExcName → Option Value} {mg mb : Str → Option Value}
  {Q E : Value → Shared → Prop} {L : Addr} {m : Str → Option Value}
theorem absorbNew {g h h0 : Heap} {L : Addr} {m : Str → Option Value} {tl : List (Addr × Obj)} (F0 : Fr g L h0 m) (ht : ∀ q ∈ tl, h.get? q.1 = some q.2 ∧ ∃ l, q.2 = tupO l) (hn : ∀ q ∈ tl, h0.get? q.1 = none) : News g L h tl := fun q hq =>
  ⟨(ht q hq).1, newNe F0 (hn q hq), newNone F0 (hn q hq)⟩
theorem ins_objsN {fs : Int → Int} {h0 h : Heap} {r : Addr} {i : Ins} (x : IsIns fs h r i) (hr : h0.get? r = none) (hn : ∀ l, h.get? r = some (tupO l) → ∀ a, Value.ref a ∈ l → h0.get? a = none) :
    ∃ tl : List (Addr × Obj), (∀ q ∈ tl, h.get? q.1 = some q.2 ∧ ∃ l, q.2 = tupO l) ∧ (∀ q ∈ tl, h0.get? q.1 = none) ∧ (∃ o, (r, o) ∈ tl) ∧ ∀ H : Heap, (∀ q ∈ tl, H.get? q.1 = some q.2) → IsIns fs H r i := by
  obtain ⟨t, ops, tl, e, h1, h2⟩ := x.objs
  refine ⟨(r, _) :: tl, fun q hq => ?_, fun q hq => ?_, ⟨_, .head _⟩, fun H b => h2 H (b _ (.head _)) fun q hq => b q (.tail _ hq)⟩
  · rcases List.mem_cons.mp hq with rfl | hq
    · exact ⟨e, _, rfl⟩
    · exact (h1 q hq).2
  · rcases List.mem_cons.mp hq with rfl | hq
    · exact hr
    · exact hn _ e _ (.tail _ (h1 q hq).1)
/-- the rows that are made so far, the queue and what stands beside it -/
inductive Row1 (g : Heap) (q : Addr) (H T0 : List (Addr × Obj)) (i : Nat) (ys : List Value) (news : List (Addr × Obj)) : Prop where
  | mk (oq : Obj) (T : List (Addr × Obj)) (is : List Ins) (hq : QOk oq) (en : news = (q, oq) :: (H ++ T)) (hT : ∀ p ∈ T, p.2.cls = .type "tuple") (h0 : ∀ p ∈ T0, p ∈ T) (hR : RowsG g T ys is) (hi : is.length = i)
theorem qok_cls {o : Obj} (h : QOk o) : o.cls = .type "list" := by
  obtain ⟨_, _, _, rfl, _⟩ := h; rfl
theorem ins_turn {q fl I C D : Addr} {H T0 : List (Addr × Obj)} {i : Nat} {ys : List Value} {news : List (Addr × Obj)} {oI oC : Obj} {t0 t1 t2 : Tok} {s₁ : Shared}
    (B : Below A₀ base outer g) (F : Fr g L s₁.heap m) (N : News g L s₁.heap ((I, oI) :: (C, oC) :: (D, LCg.lst ys) :: news)) (W : Wd w base p loose mean mg mb)
    (hh : A.handled = none) (hA : A.frames = some (env :: outer)) (hf : env.frame = some L) (hke : env.scope.kind = .function) (hd : A.depth ≤ 580) (hu : A.units ≤ 1800)
    (hfl : (fl, LCg.lst [.int 32 t0, .int 33 t1, .int 34 t2]) ∈ H) (hH : ∀ p ∈ H, p.1 ≠ q)
    (o3 : LCg.Off3 I C D news) (J : Row1 g q H T0 i ys news) (es : ∃ tk, s₁ = { s with heap := s₁.heap, toks := tk }) :
    wpAny (MM w) A (call (.ref 383) [.ref q, .ref fl]) (LCg.CompEnd g L m s I oI C oC D (LCg.lst ys) (fun _ => True) (fun y news' => Row1 g q H T0 (i + 1) (ys ++ [y]) news')) E s₁ := by
  obtain ⟨oq, T, is, hq, rfl, hT, hT0, hR, hi⟩ := J
  have o3m := o3.mem
  have m3 : ∀ {p : Addr × Obj}, p ∈ (q, oq) :: (H ++ T) → p ∈ (I, oI) :: (C, oC) :: (D, LCg.lst ys) :: (q, oq) :: (H ++ T) := fun hp => .tail _ (.tail _ (.tail _ hp))
  have N1 : News g L s₁.heap [(q, oq)] := newsSub N fun p hp => by rw [List.mem_singleton.mp hp]; exact m3 (.head _)
  have hlist : s₁.heap.IsList fl [Value.int 32 t0, Value.int 33 t1, Value.int 34 t2].toArray := ⟨_, (N _ (m3 (.tail _ (List.mem_append_left _ hfl)))).1, rfl, _, rfl⟩
  have offq : ∀ p ∈ (I, oI) :: (C, oC) :: (D, LCg.lst ys) :: (H ++ T), p.1 ≠ q := by
    have a := o3m _ (.head _)
    intro p hp
    rcases List.mem_cons.mp hp with rfl | hp
    · exact Ne.symm a.1
    · rcases List.mem_cons.mp hp with rfl | hp
      · exact Ne.symm a.2.1
      · rcases List.mem_cons.mp hp with rfl | hp
        · exact Ne.symm a.2.2
        · rcases List.mem_append.mp hp with hp | hp
          · exact hH p hp
          · refine other_cls N (m3 (.tail _ (List.mem_append_right _ hp))) (m3 (.head _)) ?_
            rw [hT p hp, qok_cls hq]; decide
  refine wpAny_call (lawins_spec (fs := fsN) (Rdy.nest B F N1 hh hA hf hke) W hq hd hu hlist (hH _ hfl) (IntsAre.cons _ _ (IntsAre.cons _ _ (IntsAre.cons _ _ IntsAre.nil))) fun r ins o' h' tk' hok hq' hK hqo hins hrn hrl => ?_)
  obtain ⟨tk0, es⟩ := es
  have F' := frAfter F N1 hK
  obtain ⟨tl', hs1, hs2, ⟨or, hor⟩, hs3⟩ := ins_objsN hins hrn hrl
  have Nt := absorbNew F hs1 hs2
  have N' : News g L h' ((I, oI) :: (C, oC) :: (D, LCg.lst ys) :: (q, o') :: (H ++ (tl' ++ T))) := by
    have keep : ∀ p ∈ (I, oI) :: (C, oC) :: (D, LCg.lst ys) :: (H ++ T), p ∈ (I, oI) :: (C, oC) :: (D, LCg.lst ys) :: (q, oq) :: (H ++ T) → h'.get? p.1 = some p.2 ∧ p.1 ≠ L ∧ g.get? p.1 = none := fun p hp hm => ⟨hK _ _ (N p hm).1 (by simpa using offq p hp), (N p hm).2⟩
    intro p hp
    rcases List.mem_cons.mp hp with rfl | hp
    · exact keep _ (.head _) (.head _)
    · rcases List.mem_cons.mp hp with rfl | hp
      · exact keep _ (.tail _ (.head _)) (.tail _ (.head _))
      · rcases List.mem_cons.mp hp with rfl | hp
        · exact keep _ (.tail _ (.tail _ (.head _))) (.tail _ (.tail _ (.head _)))
        · rcases List.mem_cons.mp hp with rfl | hp
          · exact ⟨hqo, (N1 _ (.head _)).2⟩
          · rcases List.mem_append.mp hp with hp | hp
            · exact keep _ (.tail _ (.tail _ (.tail _ (List.mem_append_left _ hp)))) (m3 (.tail _ (List.mem_append_left _ hp)))
            · rcases List.mem_append.mp hp with hp | hp
              · exact Nt p hp
              · exact keep _ (.tail _ (.tail _ (.tail _ (List.mem_append_right _ hp)))) (m3 (.tail _ (List.mem_append_right _ hp)))
  rw [es]
  refine LCg.CompEnd.intro (s₁ := s) F' N' ((q, o') :: (H ++ (tl' ++ T))) (fun p hp => hp) ?off trivial ⟨o', tl' ++ T, is ++ [ins], hq', rfl, ?cls, fun p hp => List.mem_append_right _ (hT0 p hp), (hR.mono fun p hp => List.mem_append_right _ hp).snoc ⟨⟨or, .inr (List.mem_append_left _ hor)⟩, fun Hp _ b => hs3 Hp fun p hp => b p (List.mem_append_left _ hp), hok⟩, by simp [hi]⟩
  case off =>
    refine LCg.Off3.of fun p hp => ?_
    rcases List.mem_cons.mp hp with rfl | hp
    · exact o3m (q, oq) (.head _)
    · rcases List.mem_append.mp hp with hp | hp
      · exact o3m p (.tail _ (List.mem_append_left _ hp))
      · rcases List.mem_append.mp hp with hp | hp
        · have hn := hs2 p hp
          refine ⟨fun e => ?_, fun e => ?_, fun e => ?_⟩
          · have := (N _ (.head _)).1
            dsimp only at this
            rw [← e, hn] at this; cases this
          · have := (N _ (.tail _ (.head _))).1
            dsimp only at this
            rw [← e, hn] at this; cases this
          · have := (N _ (.tail _ (.tail _ (.head _)))).1
            dsimp only at this
            rw [← e, hn] at this; cases this
        · exact o3m p (.tail _ (List.mem_append_right _ hp))
  case cls =>
    intro p hp
    rcases List.mem_append.mp hp with hp | hp
    · obtain ⟨_, l, e⟩ := hs1 p hp
      rw [e]
    · exact hT p hp
theorem after1' {h h' : Heap} {q : Addr} {o o' : Obj} {l : List (Addr × Obj)} (N : News g L h ((q, o) :: l)) (off : ∀ p ∈ l, p.1 ≠ q) (hK : Keeps [q] h h') (hq : h'.get? q = some o') : News g L h' ((q, o') :: l) := after1 N off hK hq
theorem off_tail {h : Heap} {q : Addr} {oq : Obj} {H T : List (Addr × Obj)} (N : News g L h ((q, oq) :: (H ++ T))) (hq : QOk oq) (hH : ∀ p ∈ H, p.1 ≠ q) (hT : ∀ p ∈ T, p.2.cls = .type "tuple") : ∀ p ∈ H ++ T, p.1 ≠ q := by
  intro p hp
  rcases List.mem_append.mp hp with hp' | hp'
  · exact hH p hp'
  · refine other_cls N (.tail _ hp) (.head _) ?_
    rw [hT p hp', qok_cls hq]; decide
theorem choose_1 {q : Addr} {oq : Obj} {X : List (Addr × Obj)} {many : Int} {tk : Tok}
    (B : Below A₀ base outer g) (F : Fr g L s.heap m) (N : News g L s.heap ((q, oq) :: X)) (W : Wd w base p loose mean mg mb) (hh : A.handled = none) (hA : A.frames = some (env :: outer)) (hf : env.frame = some L) (hke : env.scope.kind = .function)
    (hd : A.depth ≤ 600) (hu : A.units ≤ 2000) (hq : QOk oq) (hX : ∀ p ∈ X, p.1 ≠ q) (hm : 0 < many) (hm' : many < 1000)
    (k : ∀ r t o' h' tk', 0 ≤ r → r < many → QOk o' → Fr g L h' m → News g L h' ((q, o') :: X) → Q (.int r t) { s with heap := h', toks := tk' }) :
    wpAny (MM w) A (call (.ref 362) [.ref q, .int many tk]) Q E s := by
  have N1 : News g L s.heap [(q, oq)] := newsSub N fun p hp => by rw [List.mem_singleton.mp hp]; exact .head _
  refine wpAny_call (choose_spec (Rdy.nest B F N1 hh hA hf hke) W hq hm hm' hd hu fun r t o' h' tk' h1 h2 h3 hK hq' => ?_)
  exact k r t o' h' tk' h1 h2 h3 (frAfter F N1 hK) (after1 N hX hK hq')
theorem law2 {h : Heap} {z y4 y2 d y1 y3 x1 x2 x5 : Addr × Obj} {tl : List (Addr × Obj)} {G : Prop} (N : News g L h (z :: y4 :: y2 :: d :: y1 :: y3 :: x1 :: x2 :: x5 :: tl)) (k : ∀ H, H = [y2, d, y1, y3, x1, x2, x5, z] → News g L h (y4 :: (H ++ tl)) → G) : G :=
  k _ rfl (newsSel (l := [z, y4, y2, d, y1, y3, x1, x2, x5]) N [1, 2, 3, 4, 5, 6, 7, 8, 0] rfl)
abbrev gOfB {A : Around} {base g : Heap} {outer : List Env} (_K : Below A base outer g) : Heap := g
theorem ldGlobC {M : Model} {K : Frag} {C : Addr} {scope : Scope} {cl : List (Str × Addr)} {x : Str} {pos : Pos} {v : Value} (F : Fr g L s.heap m) (X : K.In g) (T : Top p loose mean mg mb g) (e : nsIn K mainGlobals x = some (some v)) (h : Q v s) (hg : env.globals = mainGlobals)
    (hk : (compEnvC scope cl C env).scope.kind = .function) (hx : (compEnvC scope cl C env).kindOf x = some .globalImplicit) (hd : (x == ("__debug__" : Str)) = false := by decide) :
    wpAny M A (eval (.Name x pos) (compEnvC scope cl C env)) Q E s := by
  refine Name_function_global hk hx (loadGlobal_global (env := compEnvC scope cl C env) ?_ (mg_of X T.g e) h) hd
  show s.heap.Ns env.globals mg
  rw [hg]; exact (T.keeps F.keep).g
theorem nameSh {s : Shared} {G : Prop} (_h : s.gens = #[]) (k : ∀ s', s' = s → G) : G := k s rfl
end
section
theorem str_empty_app (a : Str) : Str.empty ++ a = a := by
  cases a with
  | mk l =>
    show Str.mk (#[] ++ l) = Str.mk l
    rw [Array.empty_append]
theorem spE_of (b : Bool) (k : Int) : spE b k = spOf b k := by unfold spE spOf; rw [str_empty_app]
theorem spB_of (n : Int) : spB n = spA n := by unfold spB spA; rw [str_empty_app]
def lDig (i : Nat) : Str := Str.ofString (toString (i : Int))
theorem dig_of (i : Nat) : dig i = lDig i := by unfold dig lDig; rw [str_empty_app]
def lawTurn (b : Bk) (x : Ins) : Bk × Str := if b.ended = true then (b, Str.ofString "code behind the end") else lawStepped b x
def lawLoop : Nat → List Ins → Bk → Str → Bk × Str
  | _, [], b, due => (b, due)
  | i, x :: r, b, due => if due = Str.ofString "" ∧ b.dead = false then lawLoop (i + 1) r (lawTurn b x).1 (if (lawTurn b x).2 = Str.ofString "" then Str.ofString "" else lDig i ++ Str.ofString ": " ++ (lawTurn b x).2) else lawLoop (i + 1) r b due
def lawEnd (n : Nat) (q : Bk × Str) : Str := if q.2 = Str.ofString "" ∧ q.1.ended = false then lDig n ++ Str.ofString ": the clause has no end" else q.2
structure Sim (c : CkS) (b : Bk) : Prop where
  x : ∀ k, (true, k) ∈ b.rs ↔ k ∈ c.xs
  y : ∀ k, (false, k) ∈ b.rs ↔ k ∈ c.ys
  room : b.room = c.size
  ended : b.ended = c.ended
  fault : c.fault = Str.ofString ""
theorem ne_app {a b : Str} (h : b ≠ Str.ofString "") : a ++ b ≠ Str.ofString "" := by
  intro e
  apply h
  have h1 : (a ++ b).length = 0 := by rw [e]; rfl
  rw [Str.length_append] at h1
  cases b with
  | mk l =>
    have h2 : l.size = 0 := by
      have : (Str.mk l).length = 0 := by omega
      exact this
    have : l = #[] := Array.eq_empty_of_size_eq_zero h2
    subst this; rfl
theorem ltx1 : Str.ofString " is read before it is written" ≠ Str.ofString "" := by decide +kernel
theorem ltx2 : Str.ofString " is read outside of the environment" ≠ Str.ofString "" := by decide +kernel
theorem ltx3 : Str.ofString " is written outside of the environment" ≠ Str.ofString "" := by decide +kernel
theorem ltx4 : Str.ofString " is lacking" ≠ Str.ofString "" := by decide +kernel
theorem spA_ne (n : Int) : spA n ≠ Str.ofString "" := ne_app ltx4
theorem cpl_nil (t : Str) : cpl (Str.ofString "") t = t := if_pos rfl
theorem cpl_ne {f : Str} (t : Str) (h : f ≠ Str.ofString "") : cpl f t = f := if_neg h
theorem cpo_nil (t : Option Str) : cpo (Str.ofString "") t = t.getD (Str.ofString "") := by cases t <;> simp [cpo, cpl_nil]
theorem cpo_ne {f : Str} (t : Option Str) (h : f ≠ Str.ofString "") : cpo f t = f := by cases t <;> simp [cpo, cpl_ne _ h]
theorem mem_put {xs : List Int} {k j : Int} : j ∈ put xs k ↔ j ∈ xs ∨ j = k := by
  unfold put; split
  · exact ⟨.inl, fun h => h.elim id fun e => e ▸ (by assumption)⟩
  · simp
section
variable {rs : List Reg} {room k : Int} {xs ys : List Int} {size : Int}
theorem lr_t : lawReading rs room true k = if (true, k) ∈ rs then Str.ofString "" else spOf true k ++ Str.ofString " is read before it is written" := if_neg (fun q => nomatch q.1)
theorem lr_1 (h : room < k) : lawReading rs room false k = spOf false k ++ Str.ofString " is read outside of the environment" := if_pos ⟨rfl, h⟩
theorem lr_2 (h : ¬ room < k) : lawReading rs room false k = if (false, k) ∈ rs then Str.ofString "" else spOf false k ++ Str.ofString " is read before it is written" := if_neg (fun q => h q.2)
theorem lw_t : lawWriting rs room true k = if (true, k) ∈ rs then (rs, Str.ofString "") else (rs ++ [(true, k)], Str.ofString "") := if_neg (fun q => nomatch q.1)
theorem lw_1 (h : room < k) : lawWriting rs room false k = (rs, spOf false k ++ Str.ofString " is written outside of the environment") := if_pos ⟨rfl, h⟩
theorem lw_2 (h : ¬ room < k) : lawWriting rs room false k = if (false, k) ∈ rs then (rs, Str.ofString "") else (rs ++ [(false, k)], Str.ofString "") := if_neg (fun q => h q.2)
theorem cr_t : ckRead xs ys size true k = if k ∈ xs then none else some (spOf true k ++ Str.ofString " is read before it is written") := by rw [ckRead, if_pos rfl, spE_of]
theorem cr_1 (h : size < k) : ckRead xs ys size false k = some (spOf false k ++ Str.ofString " is read outside of the environment") := by rw [ckRead, if_neg Bool.false_ne_true, if_pos h, spE_of]
theorem cr_2 (h : ¬ size < k) : ckRead xs ys size false k = if k ∈ ys then none else some (spOf false k ++ Str.ofString " is read before it is written") := by rw [ckRead, if_neg Bool.false_ne_true, if_neg h, spE_of]
theorem cw_t : ckWrite xs ys size true k = ⟨put xs k, ys, none⟩ := if_pos rfl
theorem cw_1 (h : size < k) : ckWrite xs ys size false k = ⟨xs, ys, some (spOf false k ++ Str.ofString " is written outside of the environment")⟩ := by rw [ckWrite, if_neg Bool.false_ne_true, if_pos h, spE_of]
theorem cw_2 (h : ¬ size < k) : ckWrite xs ys size false k = ⟨xs, put ys k, none⟩ := by rw [ckWrite, if_neg Bool.false_ne_true, if_neg h]
end
theorem read_sim {c : CkS} {b : Bk} (h : Sim c b) (r : Bool) (k : Int) : (ckRead c.xs c.ys c.size r k).getD (Str.ofString "") = lawReading b.rs b.room r k := by
  rw [h.room]
  cases r with
  | true =>
    rw [lr_t, cr_t]
    by_cases hk : k ∈ c.xs
    · rw [if_pos hk, if_pos ((h.x k).mpr hk)]; rfl
    · rw [if_neg hk, if_neg (fun q => hk ((h.x k).mp q))]; rfl
  | false =>
    by_cases hs : c.size < k
    · rw [lr_1 hs, cr_1 hs]; rfl
    · rw [lr_2 hs, cr_2 hs]
      by_cases hk : k ∈ c.ys
      · rw [if_pos hk, if_pos ((h.y k).mpr hk)]; rfl
      · rw [if_neg hk, if_neg (fun q => hk ((h.y k).mp q))]; rfl
theorem write_text {c : CkS} {b : Bk} (h : Sim c b) (r : Bool) (k : Int) : (ckWrite c.xs c.ys c.size r k).c.getD (Str.ofString "") = (lawWriting b.rs b.room r k).2 := by
  rw [h.room]
  cases r with
  | true => rw [lw_t, cw_t]; split <;> rfl
  | false =>
    by_cases hs : c.size < k
    · rw [lw_1 hs, cw_1 hs]; rfl
    · rw [lw_2 hs, cw_2 hs]; split <;> rfl
theorem write_sim {c : CkS} {b : Bk} (h : Sim c b) (r : Bool) (k : Int) :
    Sim ⟨(ckWrite c.xs c.ys c.size r k).xs, (ckWrite c.xs c.ys c.size r k).ys, c.size, c.ended, Str.ofString ""⟩ { b with rs := (lawWriting b.rs b.room r k).1 } := by
  have hx := h.x
  have hy := h.y
  have hr := h.room
  refine ⟨fun j => ?_, fun j => ?_, h.room, h.ended, rfl⟩
  all_goals
    show _ ∈ (lawWriting b.rs b.room r k).1 ↔ _
    rw [hr]
    cases r with
    | true =>
      rw [lw_t, cw_t]
      by_cases hk : (true, k) ∈ b.rs
      · rw [if_pos hk]
        have hk' := (hx k).mp hk
        simp only [put, if_pos hk']
        first | exact hx j | exact hy j
      · rw [if_neg hk]
        simp only [mem_put, List.mem_append, List.mem_singleton, Prod.mk.injEq]
        first
          | (rw [hx j]; simp)
          | (rw [hy j]; simp)
    | false =>
      by_cases hs : c.size < k
      · rw [lw_1 hs, cw_1 hs]
        first | exact hx j | exact hy j
      · rw [lw_2 hs, cw_2 hs]
        by_cases hk : (false, k) ∈ b.rs
        · rw [if_pos hk]
          have hk' := (hy k).mp hk
          simp only [put, if_pos hk']
          first | exact hx j | exact hy j
        · rw [if_neg hk]
          simp only [mem_put, List.mem_append, List.mem_singleton, Prod.mk.injEq]
          first
            | (rw [hx j]; simp)
            | (rw [hy j]; simp)
theorem arg_sim {c : CkS} {b : Bk} (h : Sim c b) (n : Int) : ckArg c.xs n (Str.ofString "") = lackOf b.rs n := by
  have e1 : (true, (1 : Int)) ∈ b.rs ↔ 1 ∈ c.xs := h.x 1
  have e2 : (true, (2 : Int)) ∈ b.rs ↔ 2 ∈ c.xs := h.x 2
  unfold ckArg lackOf
  rw [spB_of, spB_of, cpl_nil]
  simp only [e1, e2]
  by_cases h1 : 1 ≤ n ∧ 1 ∉ c.xs
  · rw [if_pos h1, if_pos h1, cpl_ne _ (spA_ne 1)]; split <;> rfl
  · rw [if_neg h1, if_neg h1]
    by_cases h2 : 2 ≤ n ∧ 2 ∉ c.xs
    · rw [if_pos h2, if_pos h2, cpl_nil]
    · rw [if_neg h2, if_neg h2]
theorem arg_ne {xs : List Int} {f : Str} (n : Int) (h : f ≠ Str.ofString "") : ckArg xs n f = f := by
  unfold ckArg
  rw [cpl_ne _ h]
  split
  · rw [show (if 1 ≤ n ∧ 1 ∉ xs then f else f) = f from ite_self _, cpl_ne _ h]
  · exact ite_self _
theorem Sim.set {c : CkS} {b : Bk} (h : Sim c b) {size : Int} {ended dead : Bool} : Sim ⟨c.xs, c.ys, size, ended, Str.ofString ""⟩ ⟨b.rs, size, ended, dead⟩ := ⟨h.x, h.y, rfl, rfl, rfl⟩
theorem Sim.fl {b : Bk} {xs ys : List Int} {sz : Int} {e : Bool} {f : Str} (h : Sim ⟨xs, ys, sz, e, Str.ofString ""⟩ b) (hf : f = Str.ofString "") : Sim ⟨xs, ys, sz, e, f⟩ b := by subst hf; exact h
theorem step_sim {c : CkS} {b : Bk} (h : Sim c b) (i : Ins) (hi : InsOk i) : (ckStep c i).fault = (lawStepped b i).2 ∧ ((lawStepped b i).2 = Str.ofString "" → Sim (ckStep c i) (lawStepped b i).1) := by
  have hf := h.fault
  have same : Sim ⟨c.xs, c.ys, c.size, c.ended, Str.ofString ""⟩ b := ⟨h.x, h.y, h.room, h.ended, rfl⟩
  cases i with
  | gvar r k j =>
    have e1 := read_sim h true j
    have e2 := write_text h r k
    simp only [ckStep, lawStepped, lawMoved, hf, cpo_nil, e1]
    by_cases q : lawReading b.rs b.room true j = Str.ofString ""
    · rw [if_pos q, q, cpo_nil, e2]
      exact ⟨by first | trivial | rfl, fun z => Sim.fl (write_sim h r k) z⟩
    · rw [if_neg q, cpo_ne _ q]
      exact ⟨by first | trivial | rfl, fun z => absurd z q⟩
  | gval r k j =>
    have e1 := read_sim h true j
    have e2 := read_sim h r k
    simp only [ckStep, lawStepped, lawMoved, hf, cpo_nil, e1]
    by_cases q : lawReading b.rs b.room true j = Str.ofString ""
    · rw [if_pos q, q, cpo_nil, e2]
      exact ⟨by first | trivial | rfl, fun z => Sim.fl (same) z⟩
    · rw [if_neg q, cpo_ne _ q]
      exact ⟨by first | trivial | rfl, fun z => absurd z q⟩
  | gcon j =>
    have e1 := read_sim h true j
    simp only [ckStep, lawStepped, lawMoved, hf, cpo_nil, e1]
    exact ⟨by first | trivial | rfl, fun z => Sim.fl (same) z⟩
  | pval r k j =>
    have e1 := read_sim h r k
    have e2 := write_text h true j
    simp only [ckStep, lawStepped, lawMoved, hf, cpo_nil, e1]
    by_cases q : lawReading b.rs b.room r k = Str.ofString ""
    · rw [if_pos q, q, cpo_nil, e2]
      exact ⟨by first | trivial | rfl, fun z => Sim.fl (write_sim h true j) z⟩
    · rw [if_neg q, cpo_ne _ q]
      exact ⟨by first | trivial | rfl, fun z => absurd z q⟩
  | pvar r k j =>
    have e1 := write_text h r k
    have h2 := write_sim h r k
    have e2 := write_text h2 true j
    have h3 := write_sim h2 true j
    simp only at e2 h3
    simp only [ckStep, lawStepped, lawMoved, hf, cpo_nil, e1]
    by_cases q : (lawWriting b.rs b.room r k).2 = Str.ofString ""
    · rw [if_pos q, q, cpo_nil, e2]
      exact ⟨by first | trivial | rfl, fun z => Sim.fl (h3) z⟩
    · rw [if_neg q, cpo_ne _ q]
      exact ⟨by first | trivial | rfl, fun z => absurd z q⟩
  | pcon j =>
    have e2 := write_text h true j
    simp only [ckStep, lawStepped, lawMoved, hf, cpo_nil, e2]
    exact ⟨by first | trivial | rfl, fun z => Sim.fl (write_sim h true j) z⟩
  | alloc n =>
    simp only [ckStep, lawStepped, hf, cpl_nil, h.room]
    exact ⟨by first | trivial | rfl, fun z => Sim.fl ⟨h.x, h.y, rfl, h.ended, rfl⟩ z⟩
  | dea =>
    simp only [ckStep, lawStepped, hf, cpl_nil, h.room]
    refine ⟨trivial, fun z => Sim.fl ⟨fun k => ?_, fun k => ?_, rfl, h.ended, rfl⟩ z⟩
    · simp only [List.mem_filter, and_true]; exact h.x k
    · simp
  | call i n =>
    have e1 := arg_sim h i
    simp only [ckStep, lawStepped, lawCalled, ckCall, hf, e1, h.room]
    have sm : ∀ f, f = Str.ofString "" → Sim ⟨[], kept c.ys n, c.size, c.ended, f⟩ { b with rs := b.rs.filter (keptBy n) } := by
      rintro f rfl
      refine ⟨fun k => ?_, fun k => ?_, h.room, h.ended, rfl⟩
      · simp [keptBy]
      · simp only [List.mem_filter, keptBy, kept, Bool.not_false, Bool.true_and, decide_eq_true_eq]
        rw [h.y k]
    by_cases q : lackOf b.rs i = Str.ofString ""
    · simp only [q, true_and, cpl_nil]
      exact fun z => by have := sm _ z; rw [h.room] at this; exact this
    · simp only [q, false_and, if_false, cpl_ne _ q, ite_self]
      exact ⟨by first | trivial | rfl, fun z => z.elim⟩
  | exec i =>
    have e1 := arg_sim h i
    simp only [ckStep, lawStepped, ckLeave, hf, cpl_nil, h.room]
    by_cases q : c.size ≥ 0
    · rw [if_pos q, if_pos q, arg_ne _ (by decide +kernel)]
      exact ⟨by first | trivial | rfl, fun z => absurd z (by decide +kernel)⟩
    · rw [if_neg q, if_neg q, e1]
      exact ⟨by first | trivial | rfl, fun z => Sim.fl ⟨h.x, h.y, rfl, rfl, rfl⟩ z⟩
  | pro =>
    simp only [ckStep, lawStepped, ckLeave, hf, cpl_nil, h.room]
    exact ⟨by first | trivial | rfl, fun z => Sim.fl ⟨h.x, h.y, rfl, rfl, rfl⟩ z⟩
  | blt i =>
    have e1 := arg_sim h i
    simp only [ckStep, lawStepped, hf, e1]
    exact ⟨by first | trivial | rfl, fun z => Sim.fl (same) z⟩
  | lev r k =>
    have e2 := write_text h r k
    simp only [ckStep, lawStepped, hf, cpo_nil, e2]
    exact ⟨by first | trivial | rfl, fun z => Sim.fl (write_sim h r k) z⟩
  | cut r k =>
    have e1 := read_sim h r k
    simp only [ckStep, lawStepped, hf, cpo_nil, e1]
    exact ⟨by first | trivial | rfl, fun z => Sim.fl (same) z⟩
  | fail =>
    simp only [ckStep, lawStepped, hf]
    exact ⟨by first | trivial | rfl, fun _ => ⟨h.x, h.y, h.room, rfl, rfl⟩⟩
  | neck =>
    simp only [ckStep, lawStepped, hf]
    exact ⟨by first | trivial | rfl, fun _ => h⟩
theorem step_dead {b : Bk} (i : Ins) (h : b.dead = false) : (lawStepped b i).1.dead = isFail i := by
  cases i <;> first | exact h | rfl
theorem loop_due (n : Nat) : ∀ (is : List Ins) (i : Nat) (b : Bk) (due : Str), due ≠ Str.ofString "" → lawEnd n (lawLoop i is b due) = due
  | [], i, b, due, h => by simp only [lawLoop, lawEnd, h, false_and, if_false]
  | x :: r, i, b, due, h => by
    rw [lawLoop, if_neg (fun q => h q.1)]
    exact loop_due n r (i + 1) b due h
theorem loop_dead (n : Nat) : ∀ (is : List Ins) (i : Nat) (b : Bk) (c : CkS), b.dead = true → b.ended = true → c.ended = true → lawEnd n (lawLoop i is b (Str.ofString "")) = ckLoop n i is c true
  | [], i, b, c, h, h2, h3 => by
    rw [lawLoop, ckLoop, if_pos h3, lawEnd, if_neg]
    rintro ⟨_, q⟩
    rw [h2] at q; cases q
  | x :: r, i, b, c, h, h2, h3 => by
    rw [lawLoop, ckLoop, if_pos rfl, if_neg (fun q => by rw [h] at q; cases q.2)]
    exact loop_dead n r (i + 1) b c h h2 h3
theorem colon_ne {t : Str} (i : Nat) : lDig i ++ Str.ofString ": " ++ t ≠ Str.ofString "" := by
  intro e
  have h1 : (lDig i ++ Str.ofString ": " ++ t).length = 0 := by rw [e]; rfl
  have h2 : (Str.ofString ": ").length = 2 := by decide +kernel
  rw [Str.length_append, Str.length_append] at h1
  omega
theorem turn_sim {c : CkS} {b : Bk} (h : Sim c b) (hd : b.dead = false) (i : Ins) (hi : InsOk i) : (ckTurn c i).fault = (lawTurn b i).2 ∧ ((lawTurn b i).2 = Str.ofString "" → Sim (ckTurn c i) (lawTurn b i).1 ∧ (lawTurn b i).1.dead = isFail i ∧ (isFail i = true → (lawTurn b i).1.ended = true)) := by
  unfold ckTurn lawTurn
  rw [h.ended]
  by_cases q : c.ended = true
  · rw [if_pos q, if_pos q]
    simp only [h.fault, cpl_nil]
    exact ⟨trivial, fun z => absurd z (by decide +kernel)⟩
  · rw [if_neg q, if_neg q]
    refine ⟨(step_sim h i hi).1, fun z => ⟨(step_sim h i hi).2 z, step_dead i hd, ?_⟩⟩
    cases i <;> first | (intro z; exact absurd z Bool.false_ne_true) | (intro _; rfl)
theorem loop_sim (n : Nat) : ∀ (is : List Ins) (i : Nat) (b : Bk) (c : CkS), (∀ x ∈ is, InsOk x) → Sim c b → b.dead = false → lawEnd n (lawLoop i is b (Str.ofString "")) = ckLoop n i is c false
  | [], i, b, c, hi, h, hd => by
    rw [lawLoop, ckLoop, lawEnd, h.ended, dig_of]
    by_cases q : c.ended = true
    · rw [if_pos q, if_neg]
      rintro ⟨_, z⟩; rw [q] at z; cases z
    · rw [if_neg q, if_pos ⟨rfl, by simpa using q⟩]
  | x :: r, i, b, c, hi, h, hd => by
    have hx := turn_sim h hd x (hi x (List.mem_cons_self ..))
    rw [lawLoop, ckLoop, if_neg Bool.false_ne_true, if_pos ⟨rfl, hd⟩, hx.1, dig_of]
    by_cases q : (lawTurn b x).2 = Str.ofString ""
    · rw [if_pos q, if_pos q]
      obtain ⟨s1, s2, s3⟩ := hx.2 q
      cases hf : isFail x with
      | true => exact loop_dead n r (i + 1) _ _ (s2.trans hf) (s3 hf) (s1.ended ▸ s3 hf)
      | false => exact loop_sim n r (i + 1) _ _ (fun y hy => hi y (List.mem_cons_of_mem _ hy)) s1 (s2.trans hf)
    · rw [if_neg q, if_neg q, loop_due n r (i + 1) _ _ (colon_ne i)]
def rs0 (n : Int) : List Reg := (xs0 n).map fun k => (true, k)
def bk0 (n : Int) : Bk := ⟨rs0 n, -1, false, false⟩
theorem sim0 (n : Int) : Sim (ck0 n) (bk0 n) := by
  refine ⟨fun k => ?_, fun k => ?_, rfl, rfl, rfl⟩
  · show (true, k) ∈ (xs0 n).map _ ↔ k ∈ xs0 n
    simp
  · show (false, k) ∈ (xs0 n).map _ ↔ k ∈ []
    simp
theorem law_is (n : Int) (is : List Ins) (hi : ∀ x ∈ is, InsOk x) : lawEnd is.length (lawLoop 0 is (bk0 n) (Str.ofString "")) = ckLoop is.length 0 is (ck0 n) false := loop_sim _ is 0 _ _ hi (sim0 n) rfl
end
section
variable {g h : Heap} {L : Addr}
def regsN (i : Nat) : List Reg := (List.range i).map fun (j : Nat) => (true, 1 + (j : Int))
theorem regsN_succ (i : Nat) : regsN (i + 1) = regsN i ++ [(true, 1 + (i : Int))] := by
  unfold regsN; rw [List.range_succ, List.map_append]; rfl
theorem regsN_rs0 {n : Int} (h0 : 0 ≤ n) (h4 : n < 4) : regsN n.toNat = rs0 n := by
  have : n = 0 ∨ n = 1 ∨ n = 2 ∨ n = 3 := by omega
  rcases this with rfl | rfl | rfl | rfl <;> decide +kernel
inductive RegI (g : Heap) (P T : List (Addr × Obj)) (i : Nat) (ys : List Value) (news : List (Addr × Obj)) : Prop where
  | mk (T3 : List (Addr × Obj)) (en : news = P ++ T3) (hc : ∀ p ∈ T3, p.2.cls = .type "tuple") (hT : ∀ p ∈ T, p ∈ T3) (hG : Given g T3 (fun H => RegsAre H ys (regsN i))) (hl : ys.length = i)
theorem split11 {a1 a2 a3 a4 a5 a6 a7 a8 a9 a10 a11 : Addr × Obj} {T : List (Addr × Obj)} {G : Prop} (N : News g L h (a1 :: a2 :: a3 :: a4 :: a5 :: a6 :: a7 :: a8 :: a9 :: a10 :: a11 :: T)) (k : ∀ P, P = [a1, a2, a3, a4, a5, a6, a7, a8, a9, a10, a11] → News g L h (P ++ T) → G) : G := k _ rfl N
theorem regI_snoc {P T T3 : List (Addr × Obj)} {i : Nat} {ys : List Value} {l : Addr} {t t' : Tok} (h1 : ∀ p ∈ T3, p.2.cls = .type "tuple") (h2 : ∀ p ∈ T, p ∈ T3) (h3 : Given g T3 (fun H => RegsAre H ys (regsN i))) (h4 : ys.length = i) :
    RegI g P T (i + 1) (ys ++ [.ref l]) (P ++ ((l, tupO [.str (Str.ofString "x") t, .int (1 + (i : Int)) t']) :: T3)) := by
  refine ⟨_, rfl, fun p hp => ?_, fun p hp => .tail _ (h2 p hp), fun H a b => ?_, by simp [h4]⟩
  · rcases List.mem_cons.mp hp with rfl | hp
    · rfl
    · exact h1 p hp
  · rw [regsN_succ]
    exact (h3 H a fun q hq => b q (.tail _ hq)).snoc ⟨t, t', b _ (.head _)⟩
theorem law3 {f d : Addr} {of od : Obj} {r q y2 dd y1 y3 x1 x2 x5 z : Addr × Obj} {T : List (Addr × Obj)} {G : Prop} (N : News g L h ((f, of) :: (d, od) :: r :: q :: y2 :: dd :: y1 :: y3 :: x1 :: x2 :: x5 :: z :: T))
    (k : ∀ bk ob fl, bk = d → ob = od → News g L h ((bk, ob) :: (f, of) :: r :: y1 :: x1 :: x2 :: x5 :: z :: T) → fl = f → G) : G :=
  k d od f rfl rfl (newsSel (l := [(f, of), (d, od), r, q, y2, dd, y1, y3, x1, x2, x5, z]) N [1, 0, 2, 6, 8, 9, 10, 11] rfl) rfl
end
section
section
variable {b : Bk}
theorem room_ok {x : Ins} (hi : InsOk x) (h : -1 ≤ b.room ∧ b.room ≤ 3) : -1 ≤ (lawStepped b x).1.room ∧ (lawStepped b x).1.room ≤ 3 := by
  cases x with
  | alloc n => have := hi.1; have := hi.2; show -1 ≤ n ∧ n ≤ 3; omega
  | dea => show (-1 : Int) ≤ -1 ∧ (-1 : Int) ≤ 3; omega
  | _ => exact h
def ckOf (b : Bk) : CkS := ⟨(b.rs.filter (·.1)).map (·.2), (b.rs.filter (!·.1)).map (·.2), b.room, b.ended, Str.ofString ""⟩
theorem sim_of (b : Bk) : Sim (ckOf b) b := by
  refine ⟨fun k => ?_, fun k => ?_, rfl, rfl, rfl⟩
  · show _ ↔ k ∈ (b.rs.filter (·.1)).map (·.2)
    simp only [List.mem_map, List.mem_filter]
    exact ⟨fun h => ⟨_, ⟨h, rfl⟩, rfl⟩, fun ⟨q, ⟨hq, e⟩, e2⟩ => by obtain ⟨q1, q2⟩ := q; simp only at e e2; subst e e2; exact hq⟩
  · show _ ↔ k ∈ (b.rs.filter (!·.1)).map (·.2)
    simp only [List.mem_map, List.mem_filter]
    exact ⟨fun h => ⟨_, ⟨h, rfl⟩, rfl⟩, fun ⟨q, ⟨hq, e⟩, e2⟩ => by obtain ⟨q1, q2⟩ := q; simp only [Bool.not_eq_true'] at e e2; subst e e2; exact hq⟩
theorem stepped_len {x : Ins} (hi : InsOk x) : (lawStepped b x).2.length ≤ 100 := by
  have h1 := step_sim (sim_of b) x hi
  have h2 := ckTurn_len (c := { ckOf b with ended := false }) hi (Nat.zero_le _)
  have e : (ckTurn { ckOf b with ended := false } x).fault = (ckStep (ckOf b) x).fault := by
    unfold ckTurn
    rw [if_neg Bool.false_ne_true]
    cases x <;> rfl
  rw [e, h1.1] at h2
  exact h2
end
structure LawI (w : World) (g : Heap) (T X : List (Addr × Obj)) (bk I : Addr) (is : List Ins) (n : Int) (i : Nat) (b : Bk) (due : Str) (fl : Addr) (vs : List Value) (ob : Obj) (tr : Tok) : Prop where
  pob : ob.IsDictOf (strKind PP w) (bkK fl b.room tr b.ended b.dead)
  regs : Given g T fun H => RegsAre H vs b.rs
  len : vs.length ≤ 3 + 2 * i
  room : -1 ≤ b.room ∧ b.room ≤ 3
  loop : lawEnd is.length (lawLoop i (is.drop i) b due) = ckLoop is.length 0 is (ck0 n) false
  off : ∀ p ∈ X, p.1 ≠ bk ∧ p.1 ≠ fl
  bf : bk ≠ fl
  offI : I ≠ bk ∧ I ≠ fl
section
variable {w : World} {g : Heap} {T X : List (Addr × Obj)} {bk I : Addr} {is : List Ins} {n : Int} {i : Nat} {b : Bk} {due : Str} {fl : Addr} {vs : List Value} {ob : Obj} {tr : Tok}
theorem LawI.skip (h : LawI w g T X bk I is n i b due fl vs ob tr) (hi : i < is.length) (hn : ¬ (due = Str.ofString "" ∧ b.dead = false)) : LawI w g T X bk I is n (i + 1) b due fl vs ob tr := by
  refine ⟨h.pob, h.regs, by have := h.len; omega, h.room, ?_, h.off, h.bf, h.offI⟩
  have := h.loop
  rw [List.drop_eq_getElem_cons hi, lawLoop, if_neg hn] at this
  exact this
theorem LawI.turn {b' : Bk} {tx due' : Str} {fl' : Addr} {vs' : List Value} {ob' : Obj} {tr' : Tok} {x : Ins} (h : LawI w g T X bk I is n i b due fl vs ob tr) (hi : i < is.length) (hx : is[i] = x) (hn : due = Str.ofString "" ∧ b.dead = false)
    (hb : lawTurn b x = (b', tx)) (hd : due' = if tx = Str.ofString "" then Str.ofString "" else lDig i ++ Str.ofString ": " ++ tx) (p : ob'.IsDictOf (strKind PP w) (bkK fl' b'.room tr' b'.ended b'.dead)) (hr : Given g T fun H => RegsAre H vs' b'.rs)
    (hl : vs'.length ≤ vs.length + 2) (room : -1 ≤ b'.room ∧ b'.room ≤ 3) (off : ∀ p ∈ X, p.1 ≠ bk ∧ p.1 ≠ fl') (bf : bk ≠ fl') (offI : I ≠ bk ∧ I ≠ fl') : LawI w g T X bk I is n (i + 1) b' due' fl' vs' ob' tr' := by
  refine ⟨p, hr, by have := h.len; omega, room, ?_, off, bf, offI⟩
  have := h.loop
  rw [List.drop_eq_getElem_cons hi, lawLoop, if_pos hn, hx, hb] at this
  rw [hd]; exact this
end
section
variable {w : World} {A A₀ : Around} {base g : Heap} {outer : List Env} {env : Env} {s : Shared} {p : Program} {loose : List Str} {mean : ExcName → Option Value} {mg mb : Str → Option Value}
  {Q E : Value → Shared → Prop} {L : Addr} {m : Str → Option Value}
theorem stepped_turn {bk fl sz r : Addr} {ob osz : Obj} {vs : List Value} {nf : Nat} {b : Bk} {tr t0 t1 t2 : Tok} {i : Ins} {X T : List (Addr × Obj)}
    (B : Below A₀ base outer g) (F : Fr g L s.heap m) (N : News g L s.heap ((bk, ob) :: (fl, listOf vs.toArray nf) :: (X ++ T))) (W : Wd w base p loose mean mg mb)
    (hh : A.handled = none) (hA : A.frames = some (env :: outer)) (hf : env.frame = some L) (hke : env.scope.kind = .function) (hd : A.depth ≤ 560) (hu : A.units ≤ 1600)
    (hbf : bk ≠ fl) (hlen : vs.length ≤ 90) (hob : ob.IsDictOf (strKind PP w) (bkK fl b.room tr b.ended b.dead)) (lo : (bk == sysModules) = false) (hosz : osz.IsDictOf (intKind PP w) (szK t0 t1 t2)) (lsz : (sz == sysModules) = false) (hsz : (sz, osz) ∈ X)
    (hv : Given g T fun H => RegsAre H vs b.rs) (hr : RowIn g T r i) (hroom : -1 ≤ b.room ∧ b.room ≤ 3) (hX : ∀ p ∈ X, p.1 ≠ bk ∧ p.1 ≠ fl) (hT : ∀ p ∈ T, p.2.cls = .type "tuple")
    (z : ∀ t' h' tk' ob' fl' vs' n' tr', ob'.IsDictOf (strKind PP w) (bkK fl' (lawStepped b i).1.room tr' (lawStepped b i).1.ended (lawStepped b i).1.dead) → (Given g T fun H => RegsAre H vs' (lawStepped b i).1.rs) → vs'.length ≤ vs.length + 2 → bk ≠ fl' → (∀ p ∈ X, p.1 ≠ bk ∧ p.1 ≠ fl') →
      Fr g L h' m → News g L h' ((bk, ob') :: (fl', listOf vs'.toArray n') :: (X ++ T)) → Q (.str (lawStepped b i).2 t') { s with heap := h', toks := tk' }) :
    wpAny (MM w) A (call (.ref 421) [.ref bk, .ref r, .ref sz]) Q E s := by
  have N1 : News g L s.heap [(bk, ob), (fl, listOf vs.toArray nf), (sz, osz)] := newsSub N fun p hp => by
    revert p
    refine allC ?_ (allC ?_ (allC ?_ (allE)))
    · exact .head _
    · exact .tail _ (.head _)
    · exact .tail _ (.tail _ (List.mem_append_left _ hsz))
  have N2 : News g L s.heap [(bk, ob), (fl, listOf vs.toArray nf)] := newsSub N1 fun p hp => by
    revert p
    refine allC ?_ (allC ?_ (allE))
    · exact .head _
    · exact .tail _ (.head _)
  have nt : NT s.heap [bk, fl, sz] := nt_of (mods := [(bk, ob), (fl, listOf vs.toArray nf), (sz, osz)]) (fun p hp => (N1 p hp).1) (by
    refine allC ?_ (allC ?_ (allC ?_ (allE)))
    · exact dict_cls hob
    · show Value.type "list" ≠ Value.type "tuple"; decide
    · exact dict_cls hosz)
  have stT : ∀ q ∈ T, s.heap.get? q.1 = some q.2 := fun q hq => (N q (.tail _ (.tail _ (List.mem_append_right _ hq)))).1
  have hT2 : ∀ q ∈ T, q.1 ≠ bk ∧ q.1 ≠ fl := fun q hq => by
    have hm : q ∈ (bk, ob) :: (fl, listOf vs.toArray nf) :: (X ++ T) := .tail _ (.tail _ (List.mem_append_right _ hq))
    refine ⟨other_cls N hm (.head _) ?_, other_cls N hm (.tail _ (.head _)) ?_⟩
    · rw [hT q hq]; exact Ne.symm (dict_cls hob)
    · rw [hT q hq]; show Value.type "tuple" ≠ Value.type "list"; decide
  refine wpAny_call (lawstepped_spec (rs := b.rs) (room := b.room) (e := b.ended) (d := b.dead) (Rdy.nest B F N1 hh hA hf hke) W hd hu hbf hlen hob lo hosz lsz (hX _ hsz).1 (hX _ hsz).2 (hv _ F.keep stT) (hr.ins _ F.keep stT) hr.ok hroom nt fun t' h' tk' ob' fl' vs' n' tr' e1 e2 e3 hK hfl q1 q2 => ?_)
  have kp : ∀ q ∈ X ++ T, h'.get? q.1 = some q.2 ∧ q.1 ≠ L ∧ g.get? q.1 = none := fun q hq => by
    have hn := N q (.tail _ (.tail _ hq))
    refine ⟨hK _ _ hn.1 ?_, hn.2⟩
    have h2 : q.1 ≠ bk ∧ q.1 ≠ fl := (List.mem_append.mp hq).elim (hX q) (hT2 q)
    simp only [List.mem_cons, List.not_mem_nil, or_false, not_or]; exact h2
  have fbk : bk ≠ fl' := by
    rcases hfl with rfl | hfl
    · exact hbf
    · rintro rfl
      have := (N1 _ (.head _)).1
      dsimp only at this
      rw [hfl] at this; cases this
  refine z t' h' tk' ob' fl' vs' n' tr' e1 (fun H a c => e2 H (hr.same a c F.keep stT) (hv H a c) (hr.ins H a c)) e3 fbk (fun q hq => ⟨(hX q hq).1, ?_⟩) (frAfter F N2 hK) (fun q hq => ?_)
  · rcases hfl with rfl | hfl
    · exact (hX q hq).2
    · intro e
      have := (N q (.tail _ (.tail _ (List.mem_append_left _ hq)))).1
      rw [e, hfl] at this; cases this
  · rcases List.mem_cons.mp hq with rfl | hq
    · exact ⟨q1, (N1 _ (.head _)).2⟩
    · rcases List.mem_cons.mp hq with rfl | hq
      · rcases hfl with rfl | hfl
        · exact ⟨q2, (N1 (fl', _) (.tail _ (.head _))).2⟩
        · exact ⟨q2, newNe F hfl, newNone F hfl⟩
      · exact kp q hq
end
theorem law4 {g h : Heap} {L : Addr} {b f r y1 x1 x2 x5 z : Addr × Obj} {T : List (Addr × Obj)} {G : Prop} (N : News g L h (b :: f :: r :: y1 :: x1 :: x2 :: x5 :: z :: T)) (k : ∀ X, X = [r, y1, x1, x2, x5, z] → News g L h (b :: f :: (X ++ T)) → G) : G := k _ rfl N
theorem swap3 {g h : Heap} {L : Addr} {a b c : Addr × Obj} {l : List (Addr × Obj)} (N : News g L h (a :: b :: c :: l)) : News g L h (b :: c :: a :: l) := newsSel (l := [a, b, c]) N [1, 2, 0] rfl
theorem lDig0 (i : Nat) : Str.ofString (toString ((0 : Int) + (i : Int))) = lDig i := by rw [Int.zero_add]; rfl
theorem sub3 {x a b : Addr × Obj} {X T : List (Addr × Obj)} : ∀ p ∈ x :: a :: b :: (X ++ T), p ∈ a :: b :: ((x :: X) ++ T) := by
  intro p hp
  simp only [List.mem_cons, List.cons_append] at hp ⊢
  rcases hp with e | e | e | e <;> simp only [e, true_or, or_true]
theorem off3 {I a b : Addr} {oa ob : Obj} {X : List (Addr × Obj)} (h1 : a ≠ I) (h2 : b ≠ I) (h3 : ∀ p ∈ X, p.1 ≠ I) : ∀ p ∈ (a, oa) :: (b, ob) :: X, p.1 ≠ I := by
  intro p hp
  rcases List.mem_cons.mp hp with rfl | hp
  · exact h1
  · rcases List.mem_cons.mp hp with rfl | hp
    · exact h2
    · exact h3 p hp
theorem good_true {cl : Str → Option Addr} {mean : ExcName → Option Value} {args : List WData} {s₁ s' : Shared} (h1 : ∀ b o, s₁.heap.get? b = some o → s'.heap.get? b = some o) (h2 : s'.os = s₁.os) (h3 : s'.gens = #[]) :
    GoodW PySem.Challenge.rw_ok0019_01.row.claim cl mean args s₁ (.ok (.ret (.bool true))) s' := by
  refine ⟨.inl ⟨.bool true, .bool true, [], rfl, fun _ => rfl, .bool _, ?_, fun _ => ⟨List.nodup_nil, fun _ h => nomatch h⟩⟩, h1, h2, h3⟩
  first | rfl | (with_unfolding_all rfl) | decide
end
section
inductive TurnI (w : World) (g : Heap) (T3 X : List (Addr × Obj)) (bk Dr sz I : Addr) (is : List Ins) (n : Int) (tn : Tok) (m0 : Str → Option Value) (i : Nat) (m' : Str → Option Value) (news' : List (Addr × Obj)) : Prop where
  | mk (b : Bk) (due : Str) (td : Tok) (sv tv : Option Value) (fl : Addr) (vs : List Value) (nf : Nat) (ob : Obj) (tr : Tok) (em : m' = (fun y => if y = Str.ofString "trouble" then tv else if y = Str.ofString "spot" then sv else if y = Str.ofString "due" then some (.str due td) else if y = Str.ofString "book" then some (.ref bk) else if y = Str.ofString "code_rows" then some (.ref Dr) else if y = Str.ofString "arity_of" then some (.int n tn) else if y = Str.ofString "sizes" then some (.ref sz) else m0 y))
      (en : news' = (bk, ob) :: (fl, listOf vs.toArray nf) :: (X ++ T3)) (hI : LawI w g T3 X bk I is n i b due fl vs ob tr)
end
local macro_rules | `(tactic| walk_at "subscriptTail") => `(tactic| ((fail_if_success (fail_if_success (with_reducible show wpAny _ _ (subscriptTail _ _ (Value.ref _) (Value.int (0 + _) _)) _ _ _))); refine list_item (by assumption) (by k_mem) (by omega) (by omega) (by assumption) ?_))
local macro_rules | `(tactic| k_lt $h:ident) => `(tactic| (replace $h := allLt_of $h; simp only [AllLt, and_true] at $h:ident))
section
theorem hcond63 {n : Nat} (h : ¬ ((63 : Nat) : Int) < ((n : Nat) : Int)) : n ≤ 63 := by omega
set_option maxHeartbeats 8000000 in
theorem all : PySem.Challenge.rw_ok0019_01.Holds := by
  refine hd0._proof_1_624 ?_
  k_go0
  rename PySem.Shared.gens _ = _ => hgens
  refine nameSh hgens ?_
  intro sA esA
  subst esA
  rename Frag.In _ _ => KX
  rename Top _ _ _ _ _ _ => T
  rename Below _ _ _ _ => K0
  rename Fr _ _ _ _ => kF
  rename News _ _ _ _ => kN
  rename CellsAre _ _ _ => X0
  rename IntsAre _ _ => hI
  rename Heap.IsList _ _ _ => hL
  rename ¬ _ < _ => hlen
  have hlen := hcond63 hlen
  refine news3 kN ?_
  intro o3 o2 o1 e3 e2 e1
  subst e3 e2 e1
  rename o3.data = _ => d3
  rename o2.data = _ => d2
  rename o1.data = _ => d1
  try dsimp only
  (repeat' (walk_at "my step"))
  have C : Wd _ _ _ _ _ _ _ := ⟨KX, T⟩
  refine nameW C ?_
  intro w ew
  subst ew
  refine wpAny_call (digits_spec (Rdy.nest K0 kF (mods := []) (fun p hp => nomatch hp) rfl rfl rfl rfl) C (Nat.le_of_ble_eq_true rfl) (Nat.le_of_ble_eq_true rfl) (hL.at fun o e => kF.keep _ o e) hI hlen ?_)
  intro q oq h tk' hq hK hqo hqn
  try dsimp only
  have kF1 := frAfter kF (mods := []) (fun p hp => nomatch hp) hK
  have kN1 := newsCons (newsAfter0 kN hK) hqo (newNe kF hqn) (newNone kF hqn)
  have ne := allNe_of (newNeOf kN hqn)
  obtain ⟨m0, kF1⟩ : ∃ m0, Fr _ _ _ m0 := ⟨_, kF1⟩
  clear kF kN hK
  simp only [AllNe, and_true] at ne
  obtain ⟨n1, n2, n3⟩ := ne
  have n1' := Ne.symm n1
  have n2' := Ne.symm n2
  have n3' := Ne.symm n3
  (repeat' (walk_at "my step"))
  rename _ = PySem.Data.cell (some (Value.ref q)) => d1
  rename Fr _ _ _ _ => kF
  rename News _ _ _ _ => kN
  refine sym_use K0 kF kN C rfl rfl rfl rfl C.X (Nat.le_of_ble_eq_true rfl) (Nat.le_of_ble_eq_true rfl) ?_
  intro S dS h1 tk1 V lt dn lf df on kn tv nT od xs fv nF tl AT hAT htA hon hK htv hod hfv hxs hk29 ldn ldf hne1 hne2 hne3 htl kF1 kN1 hoff
  have hoq := hoff (q, oq) (.head _)
  have ho3 := hoff _ (.tail _ (.head _))
  have ho2 := hoff _ (.tail _ (.tail _ (.head _)))
  have ho1 := hoff _ (.tail _ (.tail _ (.tail _ (.head _))))
  clear kF kN hoff X0
  dsimp only at hoq ho3 ho2 ho1
  replace kN1 := relay kN1
  refine cell_store kF1 kN1 d2 (off10 (Nat.succ_ne_self _) (Nat.ne_of_lt (Nat.lt_succ_self _)) n2' ho2) rfl rfl rfl ?_
  intro h2 o2' kF kN d2'
  clear kF1 kN1 d2
  try dsimp only
  (repeat' (walk_at "my step"))
  refine pre4 kN ?_
  intro pre hpr
  have hpre : ∀ p ∈ pre, p.1 ∉ [lt, dn, lf, df] := by
    rw [hpr]
    refine allC ?_ (allC ?_ (allC ?_ (allC ?_ (allE))))
    · exact ho2.2.1
    · exact ho3.2.1
    · exact ho1.2.1
    · exact hoq.2.1
  have htlp : ∀ p ∈ tl, ∀ a ∈ pre, p.1 ≠ a.1 := by
    rw [hpr]
    intro p hp a ha
    revert a
    refine allC ?_ (allC ?_ (allC ?_ (allC ?_ (allE))))
    · exact ho2.2.2 p hp
    · exact ho3.2.2 p hp
    · exact ho1.2.2 p hp
    · exact hoq.2.2 p hp
  refine LCg.ListComp_U (F₀ := kF) (by with_unfolding_all rfl) (by decide) (by rfl) (by decide) (by rfl) ?_
  repeat' ((fail_if_success (with_reducible show wpAny _ _ (call _ _) _ _ _)); walk_at "my step")
  refine range1_rows kF kN ?_
  intro hr tkr r1 r2 r3 hR FR NR upR
  refine LCg.CompSrc.range (n := 3) rfl FR NR hR (by decide) (by decide) (by decide) ?_
  intro gg
  refine' compInv (fun i ys news => Sym1 _ pre V S dS lt dn lf df AT i ys news) ?step1 ?end1 3 0 [] _ rfl ⟨on, kn, tv, nT, od, xs, fv, nF, tl, AT, ?e1, ⟨.inl rfl, hon, hK, htv, hod, hfv, hxs, fun j _ => hk29 j, htl, fun j hj => absurd hj (Nat.not_lt_zero _)⟩, htlp, rfl, fun j hj => absurd hj (Nat.not_lt_zero _)⟩
  case e1 => rw [hpr]; rfl
  case step1 =>
    intro i ys news hi J v I oI C' oC D m₂ h tk E' hP hC hx F N of3 ne
    obtain ⟨t, hv⟩ := hP
    rw [Int.zero_add] at hv
    subst hv
    have NS := newsSub (news' := [(S, instObj 155 dS), (dS, syO w V lt dn lf df)]) N (by
      obtain ⟨on, kn, tv, nT, od, xs, fv, nF, tl, AT', rfl, X, _⟩ := J
      rw [hpr]
      intro p hp
      rcases List.mem_cons.mp hp with rfl | hp
      · exact .tail _ (.tail _ (.tail _ (.tail _ (.tail _ (.tail _ (.tail _ (.head _)))))))
      · rw [List.mem_singleton.mp hp]; exact .tail _ (.tail _ (.tail _ (.tail _ (.tail _ (.tail _ (.tail _ (.tail _ (.head _)))))))))
    repeat' (first | (refine ldCellC (o := o2') N rfl (by obtain ⟨_, _, _, _, _, _, _, _, _, _, rfl, _⟩ := J; rw [hpr]; exact .tail _ (.tail _ (.tail _ (.head _)))) d2' ?_ rfl rfl) | (refine ldOwnC N (.tail _ (.head _)) hC hx ?_ rfl rfl) | ((fail_if_success (with_reducible show wpAny _ _ (call (Value.ref _) _) _ _ _)); walk_at "my step"))
    refine func_turn K0 F N C rfl rfl rfl rfl (Nat.le_of_ble_eq_true rfl) (Nat.le_of_ble_eq_true rfl) hAT htA ldn ldf hne1 hne2 hne3 of3 hpre hi J ⟨_, rfl⟩
  case end1 =>
    intro ys news J D h3 tk3 F3 N3 o1
    clear kF kN FR NR
    try dsimp only
    subst hpr
    obtain ⟨on3, kn3, tv3, nT3, od3, xs3, fv3, nF3, tl3, AT3, rfl, X3, hoff3, hys3⟩ := J
    obtain ⟨t0, t1, t2, rfl⟩ := hys3.three
    have o1m := off1m o1
    refine cell_store F3 (relayF N3) d3 ?off rfl rfl rfl ?_
    case off =>
      intro p hp
      revert p
      refine allC ?_ (allC ?_ (allC ?_ (allC ?_ (allC ?_ (allC ?_ (allC ?_ (fun p hp => ?_)))))))
      · exact Ne.symm (o1m _ (.tail _ (.head _)))
      · exact n1'
      · exact Nat.ne_of_lt (Nat.lt_succ_self _)
      · exact Nat.ne_of_lt (Nat.lt_trans (Nat.lt_succ_self _) (Nat.lt_succ_self _))
      · exact Ne.symm ho3.1.1
      · exact Ne.symm ho3.1.2
      · exact fun e => ho3.2.1 (by rw [← e]; simp)
      · exact hoff3 p hp _ (.tail _ (.head _))
    intro h4 o3' kF kN d3'
    replace kN := relayQ kN
    clear F3 N3 d3
    try dsimp only
    have hsys := sys_of T (by decide +kernel)
    repeat' ((fail_if_success (with_reducible show wpAny _ _ (exec (Stmt.Assign _ (Expr.DictComp _ _ _ _ _) _) _) _ _ _)); walk_at "my step")
    refine assign_dict_range (n := 3) kF (by with_unfolding_all rfl) rfl (by with_unfolding_all rfl) (by decide) (by rfl) (by decide) (by rfl) (by rfl) (by rfl) ?_
    repeat' ((fail_if_success (with_reducible show wpAny _ _ (call _ _) _ _ _)); walk_at "my step")
    refine range1_rows kF kN ?_
    intro hr tkr r1 r2 r3 hR FR NR upR
    refine ⟨_, _, _, _, _, rfl, rfl, hR, by decide, FR, NR, ?key, ?val, ?cont⟩
    case val =>
      intro C' i t s₂ m₂ E' hi hn hm up
      exact ldLocC hn hm ⟨⟨_, rfl⟩, keep_tok _ _⟩ rfl rfl
    case key =>
      intro C' i t s₂ m₂ E' hi hn hm up
      have N2 := NR.grown up
      have F2 := FR.keeps up
      refine' wpAny_mono (Q := fun key s₃ => (∃ t', key = Value.int (32 + (i : Int)) t') ∧ PySem.Keeps s₂ s₃) ?_ (fun _ _ e => e) (fun _ _ e => e)
      have hi3 : i = 0 ∨ i = 1 ∨ i = 2 := by omega
      clear FR NR kF kN hR upR up
      rcases hi3 with rfl | rfl | rfl
      all_goals
        repeat' (first | (refine ldCellC (o := o3') N2 rfl (.tail _ (.head _)) d3' ?_ rfl rfl) | (refine ldLocC hn hm ?_ rfl rfl) | (walk_at "my step"))
      all_goals exact ⟨_, _, rfl, fun _ _ e => e⟩
    case cont =>
      intro sz kvs h5 tk5 F5 N5 hszn hszd hszk
      obtain ⟨osz, hsz1, hszo⟩ := Heap.dictOf_iff.mp hszd
      obtain ⟨u0, u1, u2, rfl⟩ := hszk.three
      have lsz := lo_of hsys FR hszn
      have hszoff := newNeOf NR hszn
      have N6 := newsCons N5 hsz1 (newNe FR hszn) (newNone FR hszn)
      refine law2 N6 ?_
      intro H hH N7
      clear N6 N5 NR kF kN
      have hHq : ∀ p ∈ H, p.1 ≠ q := by
        rw [hH]
        refine allC ?_ (allC ?_ (allC ?_ (allC ?_ (allC ?_ (allC ?_ (allC ?_ (allC ?_ (allE))))))))
        · exact n1
        · exact Ne.symm (o1m _ (.tail _ (.tail _ (.tail _ (.head _)))))
        · exact n2
        · exact n3
        · exact Ne.symm hoq.1.1
        · exact Ne.symm hoq.1.2
        · exact fun e => hoq.2.1 (by rw [← e]; simp)
        · exact Ne.symm (hszoff _ (.head _))
      have hXq := off_tail N7 hq hHq X3.tup
      have hH' := hH
      rw [hH] at N7 hXq
      simp only [List.cons_append, List.nil_append] at N7
      repeat' ((fail_if_success (with_reducible show wpAny _ _ (call (Value.ref _) _) _ _ _)); walk_at "my step")
      refine choose_1 K0 F5 N7 C rfl rfl rfl rfl (Nat.le_of_ble_eq_true rfl) (Nat.le_of_ble_eq_true rfl) hq (fun p hp => hXq p hp) (by decide) (by decide) ?_
      intro n tn oq1 h6 tk6 n0 n4 hq1 F6 N6
      clear N7 F5
      try dsimp only
      repeat' ((fail_if_success (with_reducible show wpAny _ _ (exec (Stmt.Assign _ (Expr.ListComp _ _ _ _) _) _) _ _ _)); walk_at "my step")
      rename Fr _ _ _ _ => kF
      rename News _ _ _ _ => kN
      refine LCg.Assign_ListComp_U (F₀ := kF) rfl (by with_unfolding_all rfl) (by with_unfolding_all rfl) (by decide) (by rfl) (by decide) (by rfl) (by rfl) (by rfl) ?_
      repeat' ((fail_if_success (with_reducible show wpAny _ _ (call (Value.ref _) _) _ _ _)); walk_at "my step")
      refine choose_1 K0 kF kN C rfl rfl rfl rfl (Nat.le_of_ble_eq_true rfl) (Nat.le_of_ble_eq_true rfl) hq1 (fun p hp => hXq p hp) (by decide) (by decide) ?_
      intro c tc oq2 h7 tk7 c0 c17 hq2 F7 N7
      clear kF kN
      try dsimp only
      repeat' ((fail_if_success (with_reducible show wpAny _ _ (call _ _) _ _ _)); walk_at "my step")
      refine range1_rows F7 N7 ?_
      intro hr2 tkr2 v1 v2 v3 hR2 FR2 NR2 upR2
      refine LCg.CompSrc.range (n := c.toNat) rfl FR2 NR2 hR2 (small_one (by omega) (by omega) (by omega) (by omega)) (by rw [show c = ((c.toNat : Nat) : Int) by omega, rangeSize_nat]; omega) (by rw [sizeLine_eq]; omega) ?_
      intro gg
      refine' compInv (fun i ys news => Row1 (gOfB K0) q H tl3 i ys news) ?step2 ?end2 c.toNat 0 [] _ (Nat.zero_add _) ⟨oq2, tl3, [], hq2, ?e2, X3.tup, fun p hp => hp, .nil, rfl⟩
      case e2 => rw [hH']; rfl
      case step2 =>
        intro i ys news hi J v I oI C' oC D' m₂ h tk E' hP hC hx F N of3 ne
        obtain ⟨t, rfl⟩ := hP
        clear FR2 NR2 F7 N7
        repeat' ((fail_if_success (with_reducible show wpAny _ _ (eval (Expr.Name _ _) _) _ _ _)); walk_at "my step")
        refine ldGlobC F C.X C.T (by k_is) ?_ rfl rfl rfl
        repeat' ((fail_if_success (with_reducible show wpAny _ _ (eval (Expr.Name _ _) _) _ _ _)); walk_at "my step")
        refine ldCellC N rfl (by obtain ⟨_, _, _, _, rfl, _⟩ := J; rw [hH']; exact .tail _ (.tail _ (.tail _ (.tail _ (.tail _ (.tail _ (.tail _ (.head _)))))))) d1 ?_ rfl rfl
        repeat' ((fail_if_success (with_reducible show wpAny _ _ (eval (Expr.Name _ _) _) _ _ _)); walk_at "my step")
        refine ldCellC (o := o3') N rfl (by obtain ⟨_, _, _, _, rfl, _⟩ := J; rw [hH']; exact .tail _ (.tail _ (.tail _ (.tail _ (.head _))))) d3' ?_ rfl rfl
        repeat' ((fail_if_success (with_reducible show wpAny _ _ (call (Value.ref _) _) _ _ _)); walk_at "my step")
        refine ins_turn K0 F N C rfl rfl rfl rfl (Nat.le_of_ble_eq_true rfl) (Nat.le_of_ble_eq_true rfl) (by rw [hH']; exact .tail _ (.head _)) hHq of3 J ⟨_, rfl⟩
      case end2 =>
        intro rws news J Dr h8 tk8 F8 N8 o1r
        obtain ⟨oq3, T, is, hq3, rfl, hT, hT0, hR, his⟩ := J
        rw [hH', show LCg.lst rws = listOf rws.toArray rws.length from rfl] at N8
        simp only [List.cons_append, List.nil_append] at N8
        clear FR2 NR2 F7 N7
        try dsimp only
        (repeat' (walk_at "my step"))
        rename Fr _ _ _ _ => kF
        refine LCg.ListComp_U (F₀ := kF) (by with_unfolding_all rfl) (by decide) (by rfl) (by decide) (by rfl) ?_
        repeat' ((fail_if_success (with_reducible show wpAny _ _ (call _ _) _ _ _)); walk_at "my step")
        rename Fr _ _ _ _ => kF
        rename News _ _ _ _ => kN
        refine range2_rows kF kN ?_
        intro hr3 tkr3 y1 y2 y3 hR3 FR3 NR3 upR3
        refine split11 NR3 ?_
        intro P3 hP3 NP3
        clear kF kN NR3
        refine LCg.CompSrc.range (n := n.toNat) rfl FR3 NP3 hR3 (small_one (by omega) (by omega) (by omega) (by omega)) (by rw [show n + 1 = 1 + ((n.toNat : Nat) : Int) by omega]; exact size_one n.toNat) (by rw [sizeLine_eq]; omega) ?_
        intro gg2
        refine' compInv (fun i ys news => RegI (gOfB K0) P3 T i ys news) ?step3 ?end3 n.toNat 0 [] _ (Nat.zero_add _) ⟨T, rfl, hT, fun p hp => hp, fun H _ _ => .nil, rfl⟩
        case step3 =>
          intro i ys news hi J v I oI C' oC D' m₂ h tk E' hP hC hx F N of3 ne
          obtain ⟨t, rfl⟩ := hP
          obtain ⟨T3, rfl, hc3, hT3, hG3, hl3⟩ := J
          clear FR3 NP3
          repeat' (first | (refine ldOwnC N (.tail _ (.head _)) hC hx ?_ rfl rfl) | ((fail_if_success (with_reducible show LCg.CompEnd _ _ _ _ _ _ _ _ _ _ _ _ _ _)); walk_at "my step"))
          rename News _ _ _ _ => N'
          rename Fr _ _ _ _ => F'
          rename _ < _ ∧ _ => l1
          refine' LCg.CompEnd.intro F' N' _ ?sub ?off trivial (regI_snoc hc3 hT3 hG3 hl3)
          case sub =>
            intro p hp
            rcases List.mem_cons.mp hp with rfl | hp
            · exact .tail _ (.head _)
            · rcases List.mem_cons.mp hp with rfl | hp
              · exact .tail _ (.tail _ (.head _))
              · rcases List.mem_cons.mp hp with rfl | hp
                · exact .tail _ (.tail _ (.tail _ (.head _)))
                · rcases List.mem_append.mp hp with hp | hp
                  · exact .tail _ (.tail _ (.tail _ (.tail _ (List.mem_append_left _ hp))))
                  · rcases List.mem_cons.mp hp with rfl | hp
                    · exact .head _
                    · exact .tail _ (.tail _ (.tail _ (.tail _ (List.mem_append_right _ hp))))
          case off =>
            refine LCg.Off3.of fun p hp => ?_
            rcases List.mem_append.mp hp with hp | hp
            · exact of3.mem p (List.mem_append_left _ hp)
            · rcases List.mem_cons.mp hp with rfl | hp
              · obtain ⟨q1, q2, q3, _⟩ := l1
                exact ⟨Ne.symm (Nat.ne_of_lt q1), Ne.symm (Nat.ne_of_lt q2), Ne.symm (Nat.ne_of_lt q3)⟩
              · exact of3.mem p (List.mem_append_right _ hp)
        case end3 =>
          intro ys news J Df h9 tk9 F9 N9 o1f
          obtain ⟨T3, rfl, hc3, hT3, hG3, hl3⟩ := J
          rw [hP3] at N9
          simp only [List.cons_append, List.nil_append] at N9
          clear FR3 NP3
          try dsimp only
          (repeat' (walk_at "my step"))
          refine law3 N9 ?_
          intro bk ob0 fl0 ebk eob N10 _
          subst ebk eob
          obtain ⟨ld1, ld2, ld3, ld4, ld5, ld6, ld7, ld8, ld9, ld10, _⟩ := (by assumption : Dr < bk ∧ q < bk ∧ _ < bk ∧ D < bk ∧ _ < bk ∧ _ < bk ∧ S < bk ∧ dS < bk ∧ lf < bk ∧ sz < bk ∧ _)
          have lbk : (bk == sysModules) = false := by assumption
          have hob0 : ob0.IsDictOf (PySem.strKind PP w) [] := by assumption
          refine kdn_made_str F9 N10 (.head ?offb) hob0 rfl (of_decide_eq_true (by first | rfl | kernel_rfl!)) ?_
          case offb =>
            intro p hp
            revert p
            refine allC ?_ (allC ?_ (allC ?_ (allC ?_ (allC ?_ (allC ?_ (allC ?_ (fun p hp => ?_)))))))
            · exact Ne.symm (off1m o1f (bk, ob0) (by rw [hP3]; exact List.mem_append_left _ (.head _)))
            · exact Nat.ne_of_lt ld1
            · exact Nat.ne_of_lt ld5
            · exact Nat.ne_of_lt ld7
            · exact Nat.ne_of_lt ld8
            · exact Nat.ne_of_lt ld9
            · exact Nat.ne_of_lt ld10
            · refine other_cls N10 (.tail _ (.tail _ (.tail _ (.tail _ (.tail _ (.tail _ (.tail _ (.tail _ hp)))))))) (.head _) ?_
              rw [hc3 p hp]; exact Ne.symm (dict_cls hob0)
          intro h10 ob F11 N11 hob
          have hob : ob.IsDictOf (PySem.strKind PP w) (bkK Df (-1) _ false false) := hob
          clear N10 F9 N9
          try dsimp only at N11
          repeat' ((fail_if_success (with_reducible show wpAny _ _ (call (Value.builtin "len") _) _ _ _)); walk_at "my step")
          rename Fr _ _ _ _ => kF
          rename News _ _ _ _ => kN
          have hlr : ((rws.toArray.size : Nat) : Int) = (is.length : Int) := by rw [List.size_toArray, hR.length]
          have his16 : is.length ≤ 16 := by omega
          refine kun_lenL (News.isList kN (.tail _ (.tail _ (.head _)))) hlr (by omega) ?_
          try dsimp only
          repeat' ((fail_if_success (with_reducible show wpAny _ _ (call _ _) _ _ _)); walk_at "my step")
          refine range1_rows kF kN ?_
          intro hr4 tkr4 w1 w2 w3 hR4 FR4 NR4 upR4
          refine law4 NR4 ?_
          intro X hX NX
          clear kF kN NR4
          have hrs : Builtin.Range.rangeSize 0 (is.length : Int) 1 = ((is.length : Nat) : Int) := by rw [rangeSize_nat]; omega
          have hsm : Builtin.Range.small 0 (is.length : Int) 1 = true := small_one (by omega) (by omega) (by omega) (by omega)
          have hRT := hR.mono hT3
          have hszX : (sz, osz) ∈ X := by rw [hX]; exact .tail _ (.tail _ (.tail _ (.tail _ (.tail _ (.head _)))))
          refine iter_rangeUnr rfl hR4 hsm hrs FR4 NX ?_
          intro I lI
          have hXI : ∀ p ∈ X ++ T3, p.1 ≠ I := fun p hp => Nat.ne_of_lt (lI p (.tail _ (.tail _ hp)))
          have hbkI : bk ≠ I := Nat.ne_of_lt (lI (bk, _) (.head _))
          have hflI : Df ≠ I := Nat.ne_of_lt (lI (Df, _) (.tail _ (.head _)))
          refine rangeInv (TurnI w (gOfB K0) T3 X bk Dr sz I is n tn m0) ?_ ?_ is.length 0 _ _ (Nat.zero_add _) ?_
          · rintro i m' news' hin ⟨b, due, td, sv, tv, fl, vs, nf, ob, tr, rfl, rfl, hI⟩ tp hp tkp FP NP
            obtain ⟨r, hat, hri⟩ := hRT.at hin
            have hat' : rws[((0 : Int) + (i : Int)).toNat]? = some (.ref r) := by rw [show ((0 : Int) + (i : Int)).toNat = i by omega]; exact hat
            have NP0 := And.intro True.intro NP
            rw [hX] at NP
            simp only [List.cons_append, List.nil_append] at NP
            have hdi : (Str.ofString (toString ((0 : Int) + (i : Int)))).length ≤ 100 := dig16_len (by omega) (by omega)
            clear FR4 NX hsys hpre htlp hoff3 o1m o1f lI
            by_cases hdue : due = Str.ofString ""
            · subst hdue
              obtain ⟨rs, room, ended, dead⟩ := b
              have hpob := hI.pob
              dsimp only at hpob
              cases dead
              · cases ended
                · --<E
                  (repeat' (first | ((fail_if_success (fail_if_success (with_reducible show wpAny _ _ (subscriptTail _ _ (Value.ref _) (Value.int (0 + _) _)) _ _ _))); refine list_item (by assumption) (by k_mem) (by omega) (by omega) (by assumption) ?_; (try dsimp only)) | (((fail_if_success (fail_if_success (with_reducible show wpAny _ _ (binaryOp Operator.Add (Value.str _ _) (Value.str _ _)) _ _ _))); refine' KXadd.add ?kxaa ?kxab ?kxac ?_; (case kxaa => kt_len); (case kxab => kt_len); (case kxac => exact Nat.le_of_ble_eq_true rfl); intro _ _ _; (try dsimp only))) | ((fail_if_success (with_reducible show UnrEnd _ _ _ _ _ _ _)); (fail_if_success (with_reducible show UnrPost _ _ _ _ _ _ _ _ _)); walk_at "my step") | (((fail_if_success (fail_if_success (with_reducible show wpAny _ _ (call (Value.ref 257) _) _ _ _))); refine' complain_use (by assumption) (by assumption) (by assumption) (by assumption) rfl rfl rfl rfl (Nat.le_of_ble_eq_true rfl) (Nat.le_of_ble_eq_true rfl) (by k_mem) (by assumption) ?hU ?_; (case hU => (intro _; k_upd)); intro t'_m h'_m tk'_m F'_m N'_m; (try dsimp only at N'_m); (try dsimp only); (try k_sweep)))))
                  refine stepped_turn (b := ⟨rs, room, false, false⟩) (i := is[i]) (X := (I, _) :: X) K0 (by assumption) (swap3 NP0.2) C rfl rfl rfl rfl (Nat.le_of_ble_eq_true rfl) (Nat.le_of_ble_eq_true rfl) hI.bf (by have := hI.len; omega) hpob lbk hszo lsz (.tail _ hszX) hI.regs hri hI.room (fun p hp => (List.mem_cons.mp hp).elim (fun e => e ▸ hI.offI) (hI.off p)) hc3 ?_
                  intro t' h' tk' ob' fl' vs' n' tr' e1 e2 e3 e4 e5 F' N'
                  have hlen1 := stepped_len (b := ⟨rs, room, false, false⟩) hri.ok
                  have hroom1 := room_ok (b := ⟨rs, room, false, false⟩) hri.ok hI.room
                  obtain ⟨b', tx, hb⟩ : ∃ b' tx, lawStepped ⟨rs, room, false, false⟩ is[i] = (b', tx) := ⟨_, _, rfl⟩
                  rw [hb] at e1 e2 hlen1 hroom1 ⊢
                  dsimp only at e1 e2 hlen1 hroom1 ⊢
                  clear NP NP0 FP
                  (repeat' (first | ((fail_if_success (fail_if_success (with_reducible show wpAny _ _ (subscriptTail _ _ (Value.ref _) (Value.int (0 + _) _)) _ _ _))); refine list_item (by assumption) (by k_mem) (by omega) (by omega) (by assumption) ?_; (try dsimp only)) | (((fail_if_success (fail_if_success (with_reducible show wpAny _ _ (binaryOp Operator.Add (Value.str _ _) (Value.str _ _)) _ _ _))); refine' KXadd.add ?kxaa ?kxab ?kxac ?_; (case kxaa => kt_len); (case kxab => kt_len); (case kxac => exact Nat.le_of_ble_eq_true rfl); intro _ _ _; (try dsimp only))) | ((fail_if_success (with_reducible show UnrEnd _ _ _ _ _ _ _)); (fail_if_success (with_reducible show UnrPost _ _ _ _ _ _ _ _ _)); walk_at "my step") | (((fail_if_success (fail_if_success (with_reducible show wpAny _ _ (call (Value.ref 257) _) _ _ _))); refine' complain_use (by assumption) (by assumption) (by assumption) (by assumption) rfl rfl rfl rfl (Nat.le_of_ble_eq_true rfl) (Nat.le_of_ble_eq_true rfl) (by k_mem) (by assumption) ?hU ?_; (case hU => (intro _; k_upd)); intro t'_m h'_m tk'_m F'_m N'_m; (try dsimp only at N'_m); (try dsimp only); (try k_sweep)))))
                  · refine' UnrEnd.intro (by assumption) (by assumption) ((bk, ob') :: (fl', listOf vs'.toArray n') :: (X ++ T3)) ?sub ?off ⟨b', Str.ofString (toString ((0 : Int) + (i : Int))) ++ Str.ofString ": " ++ tx, _, some (.int (0 + (i : Int)) tp), some (.str tx t'), fl', vs', n', ob', tr', ?map, rfl, hI.turn hin rfl ⟨rfl, rfl⟩ (by rw [lawTurn, if_neg Bool.false_ne_true]; exact hb) (by rw [if_neg (bne_ne (by assumption)), lDig0]) e1 e2 e3 hroom1 (fun p hp => e5 p (.tail _ hp)) e4 (e5 _ (.head _))⟩
                    case sub => exact sub3
                    case off => exact off3 (Ne.symm (e5 _ (.head _)).1) (Ne.symm (e5 _ (.head _)).2) hXI
                    case map =>
                      funext y
                      by_cases h1 : y = Str.ofString "trouble"
                      · subst h1; exact rfl
                      · by_cases h2 : y = Str.ofString "spot"
                        · subst h2; exact rfl
                        · by_cases h3 : y = Str.ofString "due"
                          · subst h3; exact rfl
                          · simp [h1, h2, h3]
                  · have htx := bne_eq (show (tx != Str.ofString "") = false by assumption)
                    refine' UnrEnd.intro (by assumption) (by assumption) ((bk, ob') :: (fl', listOf vs'.toArray n') :: (X ++ T3)) ?sub ?off ⟨b', Str.ofString "", td, some (.int (0 + (i : Int)) tp), some (.str tx t'), fl', vs', n', ob', tr', ?map, rfl, hI.turn hin rfl ⟨rfl, rfl⟩ (by rw [lawTurn, if_neg Bool.false_ne_true]; exact hb) (by rw [if_pos htx]) e1 e2 e3 hroom1 (fun p hp => e5 p (.tail _ hp)) e4 (e5 _ (.head _))⟩
                    case sub => exact sub3
                    case off => exact off3 (Ne.symm (e5 _ (.head _)).1) (Ne.symm (e5 _ (.head _)).2) hXI
                    case map =>
                      funext y
                      by_cases h1 : y = Str.ofString "trouble"
                      · subst h1; exact rfl
                      · by_cases h2 : y = Str.ofString "spot"
                        · subst h2; exact rfl
                        · simp [h1, h2]
                · --<F
                  (repeat' (first | ((fail_if_success (fail_if_success (with_reducible show wpAny _ _ (subscriptTail _ _ (Value.ref _) (Value.int (0 + _) _)) _ _ _))); refine list_item (by assumption) (by k_mem) (by omega) (by omega) (by assumption) ?_; (try dsimp only)) | (((fail_if_success (fail_if_success (with_reducible show wpAny _ _ (binaryOp Operator.Add (Value.str _ _) (Value.str _ _)) _ _ _))); refine' KXadd.add ?kxaa ?kxab ?kxac ?_; (case kxaa => kt_len); (case kxab => kt_len); (case kxac => exact Nat.le_of_ble_eq_true rfl); intro _ _ _; (try dsimp only))) | ((fail_if_success (with_reducible show UnrEnd _ _ _ _ _ _ _)); (fail_if_success (with_reducible show UnrPost _ _ _ _ _ _ _ _ _)); walk_at "my step") | (((fail_if_success (fail_if_success (with_reducible show wpAny _ _ (call (Value.ref 257) _) _ _ _))); refine' complain_use (by assumption) (by assumption) (by assumption) (by assumption) rfl rfl rfl rfl (Nat.le_of_ble_eq_true rfl) (Nat.le_of_ble_eq_true rfl) (by k_mem) (by assumption) ?hU ?_; (case hU => (intro _; k_upd)); intro t'_m h'_m tk'_m F'_m N'_m; (try dsimp only at N'_m); (try dsimp only); (try k_sweep)))))
                  refine' UnrEnd.intro (by assumption) (by assumption) ((bk, ob) :: (fl, listOf vs.toArray nf) :: (X ++ T3)) ?sub ?off ⟨⟨rs, room, true, false⟩, Str.ofString (toString ((0 : Int) + (i : Int))) ++ Str.ofString ": " ++ Str.ofString "code behind the end", _, some (.int (0 + (i : Int)) tp), some (.str (Str.ofString "code behind the end") _), fl, vs, nf, ob, tr, ?map, rfl, hI.turn hin rfl ⟨rfl, rfl⟩ (if_pos rfl) (by rw [if_neg (by decide +kernel), lDig0]) hI.pob hI.regs (Nat.le_add_right _ _) hI.room hI.off hI.bf hI.offI⟩
                  case sub => rw [hX]; exact fun p hp => hp
                  case off => exact off3 (Ne.symm hI.offI.1) (Ne.symm hI.offI.2) hXI
                  case map =>
                    funext y
                    by_cases h1 : y = Str.ofString "trouble"
                    · subst h1; exact rfl
                    · by_cases h2 : y = Str.ofString "spot"
                      · subst h2; exact rfl
                      · by_cases h3 : y = Str.ofString "due"
                        · subst h3; exact rfl
                        · simp [h1, h2, h3]
              · --<G
                (repeat' (first | ((fail_if_success (fail_if_success (with_reducible show wpAny _ _ (subscriptTail _ _ (Value.ref _) (Value.int (0 + _) _)) _ _ _))); refine list_item (by assumption) (by k_mem) (by omega) (by omega) (by assumption) ?_; (try dsimp only)) | (((fail_if_success (fail_if_success (with_reducible show wpAny _ _ (binaryOp Operator.Add (Value.str _ _) (Value.str _ _)) _ _ _))); refine' KXadd.add ?kxaa ?kxab ?kxac ?_; (case kxaa => kt_len); (case kxab => kt_len); (case kxac => exact Nat.le_of_ble_eq_true rfl); intro _ _ _; (try dsimp only))) | ((fail_if_success (with_reducible show UnrEnd _ _ _ _ _ _ _)); (fail_if_success (with_reducible show UnrPost _ _ _ _ _ _ _ _ _)); walk_at "my step") | (((fail_if_success (fail_if_success (with_reducible show wpAny _ _ (call (Value.ref 257) _) _ _ _))); refine' complain_use (by assumption) (by assumption) (by assumption) (by assumption) rfl rfl rfl rfl (Nat.le_of_ble_eq_true rfl) (Nat.le_of_ble_eq_true rfl) (by k_mem) (by assumption) ?hU ?_; (case hU => (intro _; k_upd)); intro t'_m h'_m tk'_m F'_m N'_m; (try dsimp only at N'_m); (try dsimp only); (try k_sweep)))))
                refine UnrEnd.intro (by assumption) (by assumption) ((bk, ob) :: (fl, listOf vs.toArray nf) :: (X ++ T3)) ?sub ?off ⟨⟨rs, room, ended, true⟩, Str.ofString "", td, some (.int (0 + (i : Int)) tp), tv, fl, vs, nf, ob, tr, ?map, rfl, hI.skip hin (fun q => by cases q.2)⟩
                case sub => rw [hX]; exact fun p hp => hp
                case off => exact off3 (Ne.symm hI.offI.1) (Ne.symm hI.offI.2) hXI
                case map =>
                  funext y
                  by_cases h1 : y = Str.ofString "trouble"
                  · subst h1; exact rfl
                  · by_cases h2 : y = Str.ofString "spot"
                    · subst h2; exact rfl
                    · simp [h1, h2]
            · --<H
              have hbe : (due == Str.ofString "") = false := beq_eq_false_iff_ne.mpr hdue
              (repeat' (first | ((fail_if_success (fail_if_success (with_reducible show wpAny _ _ (subscriptTail _ _ (Value.ref _) (Value.int (0 + _) _)) _ _ _))); refine list_item (by assumption) (by k_mem) (by omega) (by omega) (by assumption) ?_; (try dsimp only)) | (((fail_if_success (fail_if_success (with_reducible show wpAny _ _ (binaryOp Operator.Add (Value.str _ _) (Value.str _ _)) _ _ _))); refine' KXadd.add ?kxaa ?kxab ?kxac ?_; (case kxaa => kt_len); (case kxab => kt_len); (case kxac => exact Nat.le_of_ble_eq_true rfl); intro _ _ _; (try dsimp only))) | ((fail_if_success (with_reducible show UnrEnd _ _ _ _ _ _ _)); (fail_if_success (with_reducible show UnrPost _ _ _ _ _ _ _ _ _)); walk_at "my step") | (((fail_if_success (fail_if_success (with_reducible show wpAny _ _ (call (Value.ref 257) _) _ _ _))); refine' complain_use (by assumption) (by assumption) (by assumption) (by assumption) rfl rfl rfl rfl (Nat.le_of_ble_eq_true rfl) (Nat.le_of_ble_eq_true rfl) (by k_mem) (by assumption) ?hU ?_; (case hU => (intro _; k_upd)); intro t'_m h'_m tk'_m F'_m N'_m; (try dsimp only at N'_m); (try dsimp only); (try k_sweep)))))
              refine UnrEnd.intro (by assumption) (by assumption) ((bk, ob) :: (fl, listOf vs.toArray nf) :: (X ++ T3)) ?sub ?off ⟨b, due, td, some (.int (0 + (i : Int)) tp), tv, fl, vs, nf, ob, tr, ?map, rfl, hI.skip hin (fun q => hdue q.1)⟩
              case sub => rw [hX]; exact fun p hp => hp
              case off => exact off3 (Ne.symm hI.offI.1) (Ne.symm hI.offI.2) hXI
              case map =>
                funext y
                by_cases h1 : y = Str.ofString "trouble"
                · subst h1; exact rfl
                · by_cases h2 : y = Str.ofString "spot"
                  · subst h2; exact rfl
                  · simp [h1, h2]
          · --<J
            rintro m' news' ⟨b, due, td, sv, tv, fl, vs, nf, ob, tr, rfl, rfl, hI⟩ hp tkp FP NP
            rw [hX] at NP
            simp only [List.cons_append, List.nil_append] at NP
            clear FR4 NX hsys hpre htlp hoff3 o1m o1f lI
            have hl := hI.loop
            rw [List.drop_eq_nil_of_le (Nat.le_refl _), lawLoop] at hl
            have hroom := hI.pob
            have hdn : (Str.ofString (toString ((is.length : Nat) : Int))).length ≤ 100 := dig16_len (by omega) (by omega)
            generalize hTXT : ckLoop is.length 0 is (ck0 n) false = TXT at hl
            clear hI
            refine wpAny_execs_cons (wpAny_mono (Q := fun f s' => f = Flow.next ∧ ∃ (h' : Heap) (tk' : Nat) (td' : Tok) (mR : Str → Option Value), s' = { sA with heap := h', toks := tk' } ∧ Fr (gOfB K0) sA.heap.objs.size h' (fun y => if y = Str.ofString "due" then some (.str TXT td') else if y = Str.ofString "code_rows" then some (.ref Dr) else if y = Str.ofString "arity_of" then some (.int n tn) else mR y) ∧
              News (gOfB K0) sA.heap.objs.size h' ((bk, ob) :: (fl, listOf vs.toArray nf) :: (Dr, listOf rws.toArray rws.length) :: (sA.heap.objs.size + 1 + 1, o2') :: (S, instObj 155 dS) :: (dS, syO w V lt dn lf df) :: (lf, listOf fv3.toArray nF3) :: (sz, osz) :: T3)) ?h1 ?h2 (fun _ _ e => e))
            case h1 =>
              have fin : ∀ (due' : Str) (td' : Tok) (h' : Heap) (tk' : Nat) (m1 : Str → Option Value), due' = TXT → m1 (Str.ofString "due") = some (.str due' td') → m1 (Str.ofString "code_rows") = some (.ref Dr) → m1 (Str.ofString "arity_of") = some (.int n tn) → Fr (gOfB K0) sA.heap.objs.size h' m1 →
                  Fr (gOfB K0) sA.heap.objs.size h' (fun y => if y = Str.ofString "due" then some (.str TXT td') else if y = Str.ofString "code_rows" then some (.ref Dr) else if y = Str.ofString "arity_of" then some (.int n tn) else m1 y) := by
                rintro due' td' h' tk' m1 rfl e1 e2 e3 F'
                have e : m1 = (fun y => if y = Str.ofString "due" then some (.str due' td') else if y = Str.ofString "code_rows" then some (.ref Dr) else if y = Str.ofString "arity_of" then some (.int n tn) else m1 y) := by
                  funext y
                  by_cases h1 : y = Str.ofString "due"
                  · rw [if_pos h1, h1]; exact e1
                  · rw [if_neg h1]
                    by_cases h2 : y = Str.ofString "code_rows"
                    · rw [if_pos h2, h2]; exact e2
                    · rw [if_neg h2]
                      by_cases h3 : y = Str.ofString "arity_of"
                      · rw [if_pos h3, h3]; exact e3
                      · rw [if_neg h3]
                exact e ▸ F'
              by_cases hdue : due = Str.ofString ""
              · subst hdue
                obtain ⟨rs, room, ended, dead⟩ := b
                dsimp only at hroom
                cases ended
                · rw [lawEnd, if_pos ⟨rfl, rfl⟩] at hl
                  repeat' ((fail_if_success (with_reducible show wpAny _ _ (call (Value.builtin "len") _) _ _ _)); (fail_if_success (with_reducible show And _ _)); first | (((fail_if_success (fail_if_success (with_reducible show wpAny _ _ (binaryOp Operator.Add (Value.str _ _) (Value.str _ _)) _ _ _))); refine' KXadd.add ?kxaa ?kxab ?kxac ?_; (case kxaa => kt_len); (case kxab => kt_len); (case kxac => exact Nat.le_of_ble_eq_true rfl); intro _ _ _; (try dsimp only))) | walk_at "my step")
                  refine kun_lenL (News.isList NP (.tail _ (.tail _ (.head _)))) hlr (by omega) ?_
                  try dsimp only
                  repeat' ((fail_if_success (with_reducible show And _ _)); first | (((fail_if_success (fail_if_success (with_reducible show wpAny _ _ (binaryOp Operator.Add (Value.str _ _) (Value.str _ _)) _ _ _))); refine' KXadd.add ?kxaa ?kxab ?kxac ?_; (case kxaa => kt_len); (case kxab => kt_len); (case kxac => exact Nat.le_of_ble_eq_true rfl); intro _ _ _; (try dsimp only))) | walk_at "my step")
                  exact ⟨by first | exact True.intro | rfl, _, _, _, _, rfl, fin _ _ _ 0 _ hl rfl rfl rfl (by assumption), by assumption⟩
                · rw [lawEnd, if_neg (fun q => by cases q.2)] at hl
                  repeat' ((fail_if_success (with_reducible show And _ _)); first | (((fail_if_success (fail_if_success (with_reducible show wpAny _ _ (binaryOp Operator.Add (Value.str _ _) (Value.str _ _)) _ _ _))); refine' KXadd.add ?kxaa ?kxab ?kxac ?_; (case kxaa => kt_len); (case kxab => kt_len); (case kxac => exact Nat.le_of_ble_eq_true rfl); intro _ _ _; (try dsimp only))) | walk_at "my step")
                  exact ⟨by first | exact True.intro | rfl, _, _, _, _, rfl, fin _ _ _ 0 _ hl rfl rfl rfl FP, NP⟩
              · have hbe : (due == Str.ofString "") = false := beq_eq_false_iff_ne.mpr hdue
                rw [lawEnd, if_neg (fun q => hdue q.1)] at hl
                repeat' ((fail_if_success (with_reducible show And _ _)); first | (((fail_if_success (fail_if_success (with_reducible show wpAny _ _ (binaryOp Operator.Add (Value.str _ _) (Value.str _ _)) _ _ _))); refine' KXadd.add ?kxaa ?kxab ?kxac ?_; (case kxaa => kt_len); (case kxab => kt_len); (case kxac => exact Nat.le_of_ble_eq_true rfl); intro _ _ _; (try dsimp only))) | walk_at "my step")
                exact ⟨by first | exact True.intro | rfl, _, _, _, _, rfl, fin _ _ _ 0 _ hl rfl rfl rfl FP, NP⟩
            case h2 =>
              rintro f s' ⟨rfl, h', tk', td', mR, rfl, F', N'⟩
              clear FP NP
              try dsimp only
              repeat' ((fail_if_success (with_reducible show wpAny _ _ (call (Value.ref _) _) _ _ _)); (fail_if_success (with_reducible show And _ _)); first | (((fail_if_success (fail_if_success (with_reducible show wpAny _ _ (binaryOp Operator.Add (Value.str _ _) (Value.str _ _)) _ _ _))); refine' KXadd.add ?kxaa ?kxab ?kxac ?_; (case kxaa => kt_len); (case kxab => kt_len); (case kxac => exact Nat.le_of_ble_eq_true rfl); intro _ _ _; (try dsimp only))) | walk_at "my step")
              rename Fr _ _ _ _ => kF
              rename News _ _ _ _ => kN
              refine ⟨C.X.keeps kF.keep, ?_⟩
              have kN4 := newsSub (news' := [(S, instObj 155 dS), (dS, syO w V lt dn lf df), (lf, listOf fv3.toArray nF3), (_, listOf rws.toArray _)]) kN (by
                refine allC ?_ (allC ?_ (allC ?_ (allC ?_ (allE))))
                · exact .tail _ (.tail _ (.tail _ (.tail _ (.tail _ (.head _)))))
                · exact .tail _ (.tail _ (.tail _ (.tail _ (.tail _ (.tail _ (.head _))))))
                · exact .tail _ (.tail _ (.tail _ (.tail _ (.tail _ (.tail _ (.tail _ (.head _)))))))
                · exact .head _)
              have stT : ∀ q ∈ T3, _ := fun q hq => (kN q (.tail _ (.tail _ (.tail _ (.tail _ (.tail _ (.tail _ (.tail _ (.tail _ (.tail _ hq)))))))))).1
              refine wpAny_call (ckrun_spec (n := n) (is := is) (iv := rws) (fv := fv3) (Rdy.nest K0 kF kN4 rfl rfl rfl rfl) C (Nat.le_of_ble_eq_true rfl) (Nat.le_of_ble_eq_true rfl) (X3.fn.fun3 fun q hq => stT q (hT3 q (hT0 q hq))) (hRT.are kF.keep stT) his16 ⟨n0, n4⟩ (nt_of (fun p hp => (kN4 p hp).1) ?nt) ?_)
              case nt =>
                refine allC ?_ (allC ?_ (allC ?_ (allC ?_ (allE))))
                · exact inst_cls
                · exact dictO_cls
                · show Value.type "list" ≠ Value.type "tuple"; decide
                · show Value.type "list" ≠ Value.type "tuple"; decide
              intro t' h12 tk12 hK12
              rw [hTXT]
              have kF12 := frAfter kF (mods := []) (fun p hp => nomatch hp) hK12
              clear kF
              try dsimp only
              repeat' ((fail_if_success (with_reducible show GoodW _ _ _ _ _ _ _)); walk_at "my step")
              rw [beq_self_eq_true]
              exact good_true (fun b o e => kF12.keep b o e) rfl hgens
          · --<K
            refine' ⟨bk0 n, Str.ofString "", _, m0 (Str.ofString "spot"), m0 (Str.ofString "trouble"), Df, ys, ys.length, ob, _, ?map, rfl, hob, ?regs, ?len, ?room, ?loop, ?off, ?bf, ⟨Ne.symm hbkI, Ne.symm hflI⟩⟩
            case regs => rw [regsN_rs0 n0 n4] at hG3; exact hG3
            case len => rw [hl3]; omega
            case room => exact ⟨Int.le_refl _, (by show (-1 : Int) ≤ 3; decide)⟩
            case loop => exact law_is n is hR.ok
            case map =>
              funext y
              by_cases h1 : y = Str.ofString "trouble"
              · subst h1; exact rfl
              · by_cases h2 : y = Str.ofString "spot"
                · subst h2; exact rfl
                · rw [if_neg h1, if_neg h2]
            case off =>
              intro p hp
              rw [hX] at hp
              have oP := off1m o1f
              rw [hP3] at oP
              revert p
              refine allC ?_ (allC ?_ (allC ?_ (allC ?_ (allC ?_ (allC ?_ allE)))))
              · exact ⟨Nat.ne_of_lt ld1, oP _ (.tail _ (.head _))⟩
              · exact ⟨Nat.ne_of_lt ld5, oP _ (.tail _ (.tail _ (.tail _ (.tail _ (.tail _ (.head _))))))⟩
              · exact ⟨Nat.ne_of_lt ld7, oP _ (.tail _ (.tail _ (.tail _ (.tail _ (.tail _ (.tail _ (.tail _ (.head _))))))))⟩
              · exact ⟨Nat.ne_of_lt ld8, oP _ (.tail _ (.tail _ (.tail _ (.tail _ (.tail _ (.tail _ (.tail _ (.tail _ (.head _)))))))))⟩
              · exact ⟨Nat.ne_of_lt ld9, oP _ (.tail _ (.tail _ (.tail _ (.tail _ (.tail _ (.tail _ (.tail _ (.tail _ (.tail _ (.head _))))))))))⟩
              · exact ⟨Nat.ne_of_lt ld10, oP _ (.tail _ (.tail _ (.tail _ (.tail _ (.tail _ (.tail _ (.tail _ (.tail _ (.tail _ (.tail _ (.head _)))))))))))⟩
            case bf => exact off1m o1f (bk, ob0) (by rw [hP3]; exact List.mem_append_left _ (.head _))
end
end Mine
theorem PySem.Challenge.cw_ok0019_01_holds : PySem.Challenge.rw_ok0019_01.Holds :=
  Mine.all
