import PyProof.Rows.All
import Wide.All
import OpenK.AllK
import Wide.FinOn
import Lean
import PySem.Challenge.RW_nz0314_01
open PySem PySem.W PyProof.Rows PySem.Calls
set_option Elab.async false
set_option rowWalk.seconds 0
set_option maxRecDepth 100000
set_option maxHeartbeats 20000000
/- «open_top» makes twins of its own constants, equation and all: 10 MB when compiled, over the lid. A twin is made only where its name is free. The head is therefore run once beforehand, within «Spare», whose twins would bear the names below; these are taken, so none is made, and the library's record then says of each constant that it has no twin. The first run itself is dropped. Nothing in the proof uses these names. -/
namespace Mine
def Spare.tw3301763379998227360 : Unit := ()
def Spare.tw9972666743460830910 : Unit := ()
def Spare.tw4791829225688811624 : Unit := ()
def Spare.tw4645424610346810559 : Unit := ()
def Spare.tw10392662589719356973 : Unit := ()
def Spare.tw14543418593201130180 : Unit := ()
def Spare.tw13635769711099601290 : Unit := ()
def Spare.tw11586291988721665069 : Unit := ()
def Spare.tw7550511058751776375 : Unit := ()
def Spare.tw14998367865991363065 : Unit := ()
def Spare.tw17488250532075221384 : Unit := ()
def Spare.tw17614571519664327285 : Unit := ()
def Spare.tw2489670762618824936 : Unit := ()
def Spare.tw17137293889580756670 : Unit := ()
def Spare.tw14559535940056370777 : Unit := ()
def Spare.tw10663134300154268053 : Unit := ()
def Spare.tw5938743842683743046 : Unit := ()
def Spare.tw3914218151753498896 : Unit := ()
def Spare.tw18314191401786940747 : Unit := ()
def Spare.tw3801589986878536958 : Unit := ()
def Spare.tw10774608218454047983 : Unit := ()
def Spare.tw16425473953953977368 : Unit := ()
def Spare.tw17617891672497727904 : Unit := ()
def Spare.tw5034237921680767330 : Unit := ()
def Spare.tw12317544497338484521 : Unit := ()
def Spare.tw3204407304642329912 : Unit := ()
def Spare.tw3884451666502515685 : Unit := ()
def Spare.tw1296050256070342479 : Unit := ()
def Spare.tw16470670761040123972 : Unit := ()
def Spare.tw1781950836730722071 : Unit := ()
def Spare.tw15511635342562119343 : Unit := ()
def Spare.tw4577290164522296334 : Unit := ()
def Spare.tw6325839565832080117 : Unit := ()
def Spare.tw17093195253551268658 : Unit := ()
def Spare.tw384400689802777114 : Unit := ()
def Spare.tw17737374499214198802 : Unit := ()
def Spare.tw11950744615766471726 : Unit := ()
def Spare.tw17228394102786437594 : Unit := ()
def Spare.tw9438477513170564067 : Unit := ()
def Spare.tw11872203964185481263 : Unit := ()
def Spare.tw18007785060458292359 : Unit := ()
def Spare.tw565836112002475855 : Unit := ()
def Spare.tw8411646796726382557 : Unit := ()
def Spare.tw12184325571397226024 : Unit := ()
def Spare.tw16187886332272677169 : Unit := ()
def Spare.tw9670927045810411499 : Unit := ()
def Spare.tw11455706051694676444 : Unit := ()
def Spare.tw5883768041316006461 : Unit := ()
def Spare.tw162261115347023552 : Unit := ()
def Spare.tw6347332753462361179 : Unit := ()
def Spare.tw18139163502383759580 : Unit := ()
def Spare.tw3775023440604974695 : Unit := ()
def Spare.tw2505970310768239023 : Unit := ()
def Spare.tw10361787634660617971 : Unit := ()
def Spare.tw15742900597601256775 : Unit := ()
def Spare.tw5211115447630463545 : Unit := ()
def Spare.tw17144816724312270190 : Unit := ()
def Spare.tw12414514036025862818 : Unit := ()
def Spare.tw12583189311887268069 : Unit := ()
def Spare.tw8196800031090875019 : Unit := ()
def Spare.tw13825996377471719205 : Unit := ()
def Spare.tw1895377191168819112 : Unit := ()
def Spare.tw15399781282134701536 : Unit := ()
def Spare.tw13625123830195996578 : Unit := ()
def Spare.tw11184029322064958910 : Unit := ()
def Spare.tw1374425949555558943 : Unit := ()
def Spare.tw7528792408819416684 : Unit := ()
def Spare.tw14044132789447790111 : Unit := ()
def Spare.tw3881642078627887867 : Unit := ()
def Spare.tw4089589773576496475 : Unit := ()
def Spare.tw10471877309512049125 : Unit := ()
def Spare.tw18157914854292385099 : Unit := ()
def Spare.tw2205339606001144541 : Unit := ()
def Spare.tw11010345453702145460 : Unit := ()
def Spare.tw6458987528684919035 : Unit := ()
def Spare.tw15206659342776680895 : Unit := ()
def Spare.tw12329214461598122117 : Unit := ()
def Spare.tw11006364275862192294 : Unit := ()
def Spare.tw6094857593901244952 : Unit := ()
def Spare.tw10785910176496547405 : Unit := ()
def Spare.tw18096771628993860115 : Unit := ()
def Spare.tw995815243727589309 : Unit := ()
def Spare.tw4242509248531945172 : Unit := ()
def Spare.tw14107766007713215916 : Unit := ()
def Spare.tw12469553255257005649 : Unit := ()
def Spare.tw80465736347182923 : Unit := ()
def Spare.tw13132492074958886243 : Unit := ()
def Spare.tw13439632316813744481 : Unit := ()
def Spare.tw10041061141886223858 : Unit := ()
def Spare.tw6404982239023106233 : Unit := ()
def Spare.tw7233458341979754294 : Unit := ()
def Spare.tw3689534232343181622 : Unit := ()
def Spare.tw4889712410248529946 : Unit := ()
def Spare.tw4728592269460422587 : Unit := ()
def Spare.tw4181308465049349791 : Unit := ()
def Spare.tw17395616427647368816 : Unit := ()
def Spare.tw4256882766115220348 : Unit := ()
def Spare.tw2617352609942350151 : Unit := ()
def Spare.tw7746092057716902091 : Unit := ()
def Spare.tw1421062864811292625 : Unit := ()
def Spare.tw10431186029438349858 : Unit := ()
def Spare.tw3694621627213137178 : Unit := ()
def Spare.tw594529424504376047 : Unit := ()
def Spare.tw5041931821869329836 : Unit := ()
def Spare.tw5867347116866959189 : Unit := ()
def Spare.tw16643742669503610365 : Unit := ()
def Spare.tw3576630282875959021 : Unit := ()
def Spare.tw11101623085685469336 : Unit := ()
def Spare.tw6854997362417669642 : Unit := ()
def Spare.tw12444497649721561412 : Unit := ()
def Spare.tw11322548890638769394 : Unit := ()
def Spare.tw11270115314241744566 : Unit := ()
def Spare.tw10804956283745199622 : Unit := ()
def Spare.tw10936410834254495646 : Unit := ()
def Spare.tw7843991107884783215 : Unit := ()
def Spare.tw16906060159511978379 : Unit := ()
def Spare.tw10148257255926952930 : Unit := ()
def Spare.tw17287743844894883528 : Unit := ()
def Spare.tw14526716106712468016 : Unit := ()
def Spare.tw3816338748116522958 : Unit := ()
def Spare.tw14578954738686676253 : Unit := ()
def Spare.tw11254402775143094554 : Unit := ()
def Spare.tw9767558911202159237 : Unit := ()
def Spare.tw1466831758419703918 : Unit := ()
def Spare.tw17087454605114954967 : Unit := ()
def Spare.tw16278024530229058932 : Unit := ()
def Spare.tw3640898513658458685 : Unit := ()
def Spare.tw16428503591726356318 : Unit := ()
def Spare.tw12429584098735877073 : Unit := ()
def Spare.tw13012096138554440694 : Unit := ()
def Spare.tw7127454777353381219 : Unit := ()
def Spare.tw8633495593245124067 : Unit := ()
def Spare.tw6989205256894625297 : Unit := ()
def Spare.tw7039630794865843341 : Unit := ()
def Spare.tw13282677128285668254 : Unit := ()
def Spare.tw5968716188069144893 : Unit := ()
def Spare.tw14254824631130796484 : Unit := ()
def Spare.tw6290339495805233282 : Unit := ()
def Spare.tw12582270537211270091 : Unit := ()
def Spare.tw9922078137104246873 : Unit := ()
def Spare.tw8838272539900597659 : Unit := ()
def Spare.tw18103160581150718166 : Unit := ()
def Spare.tw16256711515269134481 : Unit := ()
def Spare.tw4784026409656383088 : Unit := ()
def Spare.tw11534423820336613140 : Unit := ()
def Spare.tw3243637470848443484 : Unit := ()
def Spare.tw6927070955766700560 : Unit := ()
def Spare.tw16658591818060876769 : Unit := ()
def Spare.tw13672526321977304358 : Unit := ()
def Spare.tw14842205177414367988 : Unit := ()
def Spare.tw2279960343632188812 : Unit := ()
def Spare.tw1200674817842232272 : Unit := ()
def Spare.tw9004863813851978374 : Unit := ()
def Spare.tw7228466355437257318 : Unit := ()
def Spare.tw13014082711191245525 : Unit := ()
def Spare.tw1408683203746402111 : Unit := ()
def Spare.tw17525254139114112508 : Unit := ()
def Spare.tw15266416056245028315 : Unit := ()
def Spare.tw6013995085892374493 : Unit := ()
def Spare.tw6278130996669471534 : Unit := ()
def Spare.tw15154075717623617978 : Unit := ()
def Spare.tw9340363163061070869 : Unit := ()
def Spare.tw15610980097906973263 : Unit := ()
def Spare.tw5194100425359739304 : Unit := ()
def Spare.tw6394705626204213648 : Unit := ()
def Spare.tw2295595383325608468 : Unit := ()
def Spare.tw15335145762628061054 : Unit := ()
def Spare.tw3353004029562308719 : Unit := ()
def Spare.tw13281876227113259612 : Unit := ()
def Spare.tw1082754447773300252 : Unit := ()
def Spare.tw15845576315991859576 : Unit := ()
def Spare.tw12604798425775776157 : Unit := ()
def Spare.tw16613314674533272145 : Unit := ()
def Spare.tw2461510925026147964 : Unit := ()
def Spare.tw5756599727456303709 : Unit := ()
def Spare.tw9629127537696240602 : Unit := ()
def Spare.tw18207559440403063034 : Unit := ()
def Spare.tw15521282713144383718 : Unit := ()
def Spare.tw5317309695020713280 : Unit := ()
def Spare.tw117228369140809578 : Unit := ()
def Spare.tw9219634870856213462 : Unit := ()
def Spare.tw17651971895802157373 : Unit := ()
def Spare.tw2363755277299587872 : Unit := ()
def Spare.tw14300105303922092357 : Unit := ()
def Spare.tw3734918529770555146 : Unit := ()
def Spare.tw2820036447729681853 : Unit := ()
def Spare.tw4005809617477405343 : Unit := ()
def Spare.tw1784945359562008227 : Unit := ()
def Spare.tw4317829730258550217 : Unit := ()
def Spare.tw2161632397947281638 : Unit := ()
def Spare.tw10747351839685590900 : Unit := ()
def Spare.tw1357891101366991919 : Unit := ()
def Spare.tw17729692944623889588 : Unit := ()
def Spare.tw9723966699822634507 : Unit := ()
def Spare.tw14226684224393411222 : Unit := ()
def Spare.tw9457823818803043046 : Unit := ()
def Spare.tw12859242845080963339 : Unit := ()
def Spare.tw10674301982164103068 : Unit := ()
def Spare.tw10263265674028309565 : Unit := ()
def Spare.tw14956760797092548380 : Unit := ()
def Spare.tw15720118614244474661 : Unit := ()
def Spare.tw10742649932011750459 : Unit := ()
def Spare.tw13984574160828633912 : Unit := ()
def Spare.tw1190837521637147432 : Unit := ()
def Spare.tw17178409645817542977 : Unit := ()
def Spare.tw12865102568826214147 : Unit := ()
def Spare.tw10842983071613671889 : Unit := ()
def Spare.tw16466266243169353996 : Unit := ()
def Spare.tw10877627379153334001 : Unit := ()
def Spare.tw9361606256261531493 : Unit := ()
def Spare.tw9693053056250690123 : Unit := ()
def Spare.tw781856032542952404 : Unit := ()
def Spare.tw8473561009706207648 : Unit := ()
def Spare.tw3710682440285336419 : Unit := ()
def Spare.tw13476789949232281960 : Unit := ()
def Spare.tw6996108936591650586 : Unit := ()
def Spare.tw9285900464226508081 : Unit := ()
def Spare.tw7935881665602249752 : Unit := ()
def Spare.tw16035262609471292708 : Unit := ()
def Spare.tw2635791692188147916 : Unit := ()
def Spare.tw7066910302084746946 : Unit := ()
def Spare.tw14533487253859936276 : Unit := ()
def Spare.tw2120104309625092748 : Unit := ()
def Spare.tw15414471539579906376 : Unit := ()
def Spare.tw13916552176514352023 : Unit := ()
def Spare.tw13067012267577041181 : Unit := ()
def Spare.tw10604542385428766238 : Unit := ()
def Spare.tw9224607217508200254 : Unit := ()
def Spare.tw12993785780074083691 : Unit := ()
def Spare.tw8694696150336478948 : Unit := ()
def Spare.tw7998239555661802970 : Unit := ()
def Spare.tw13300504222847619620 : Unit := ()
def Spare.tw7598329505079264422 : Unit := ()
def Spare.tw10636385808562666844 : Unit := ()
def Spare.tw10435714374062277734 : Unit := ()
def Spare.tw4401473566956516165 : Unit := ()
def Spare.tw11704935345767318092 : Unit := ()
def Spare.tw8084341841340303405 : Unit := ()
def Spare.tw431796739123518973 : Unit := ()
def Spare.tw9862971925275551784 : Unit := ()
def Spare.tw3913952421286007581 : Unit := ()
def Spare.tw15314160650096326467 : Unit := ()
def Spare.tw12903773969527935184 : Unit := ()
def Spare.tw16504182898359132768 : Unit := ()
def Spare.tw9723609556748634891 : Unit := ()
def Spare.tw13307961904780781576 : Unit := ()
def Spare.tw8644314917186142595 : Unit := ()
def Spare.tw9239053710854185833 : Unit := ()
def Spare.tw11221484789632505715 : Unit := ()
def Spare.tw898827495141892073 : Unit := ()
def Spare.tw2466743895564533117 : Unit := ()
def Spare.tw866687843142873763 : Unit := ()
def Spare.tw15737760691305989095 : Unit := ()
def Spare.tw504891916145156923 : Unit := ()
def Spare.tw1101600826507760728 : Unit := ()
def Spare.tw17431156626626691149 : Unit := ()
def Spare.tw4296342065043846385 : Unit := ()
def Spare.tw18082735911006025148 : Unit := ()
def Spare.tw8666551834090657682 : Unit := ()
def Spare.tw7801587025842280910 : Unit := ()
def Spare.tw18208423062924286952 : Unit := ()
def Spare.tw4358183077993849324 : Unit := ()
def Spare.tw7960061770455496173 : Unit := ()
def Spare.tw3260989188053526853 : Unit := ()
def Spare.tw14977367877826026511 : Unit := ()
def Spare.tw4430659270943553132 : Unit := ()
def Spare.tw6154848354587584207 : Unit := ()
def Spare.tw13387765062957797484 : Unit := ()
def Spare.tw13190714288461363485 : Unit := ()
def Spare.tw18136511314162500044 : Unit := ()
def Spare.tw6898414966590664062 : Unit := ()
def Spare.tw15938105324626088165 : Unit := ()
def Spare.tw4214856425410003074 : Unit := ()
def Spare.tw13023788605682051561 : Unit := ()
def Spare.tw16869962119563888292 : Unit := ()
def Spare.tw10355310635062697937 : Unit := ()
def Spare.tw10346675234867860756 : Unit := ()
def Spare.tw4664424686726443736 : Unit := ()
def Spare.tw11761453430574764191 : Unit := ()
def Spare.tw15155343552445953030 : Unit := ()
def Spare.tw14943747869319893504 : Unit := ()
def Spare.tw8484061268801239563 : Unit := ()
def Spare.tw10880647525625868870 : Unit := ()
def Spare.tw13903261093296190121 : Unit := ()
def Spare.tw1298438865391772211 : Unit := ()
def Spare.tw13327115268243075217 : Unit := ()
def Spare.tw2673867137106363784 : Unit := ()
def Spare.tw10105334011250102781 : Unit := ()
def Spare.tw17419106019604624335 : Unit := ()
def Spare.tw17226038648706331912 : Unit := ()
def Spare.tw16648964448496939325 : Unit := ()
def Spare.tw8956774202925764964 : Unit := ()
def Spare.tw18306043585709998089 : Unit := ()
def Spare.tw18441280635725268055 : Unit := ()
def Spare.tw15449839901466220650 : Unit := ()
def Spare.tw7982753463170030558 : Unit := ()
def Spare.tw13929694375495460693 : Unit := ()
def Spare.tw418938075147671031 : Unit := ()
def Spare.tw4263278055594486903 : Unit := ()
def Spare.tw12939779910986248761 : Unit := ()
def Spare.tw7974024174839650148 : Unit := ()
def Spare.tw3372438122502784106 : Unit := ()
def Spare.tw7492251384519497013 : Unit := ()
def Spare.tw16673339619214256341 : Unit := ()
def Spare.tw2651074799200198056 : Unit := ()
def Spare.tw1979115841748490022 : Unit := ()
def Spare.tw3010108310159080164 : Unit := ()
def Spare.tw12828059130296170670 : Unit := ()
def Spare.tw6031969954582607217 : Unit := ()
def Spare.tw14247440517205743527 : Unit := ()
def Spare.tw9646178801581248448 : Unit := ()
def Spare.tw14704167913309867128 : Unit := ()
def Spare.tw15746398419596047352 : Unit := ()
def Spare.tw11447647147844680917 : Unit := ()
def Spare.tw16914090623215656437 : Unit := ()
def Spare.tw14491225485692004160 : Unit := ()
def Spare.tw6928811212247394314 : Unit := ()
def Spare.tw369881657461328515 : Unit := ()
def Spare.tw14628908819659128376 : Unit := ()
def Spare.tw4365828749069109473 : Unit := ()
def Spare.tw14696663261931281593 : Unit := ()
def Spare.tw3917143371219230417 : Unit := ()
def Spare.tw6383273620884944503 : Unit := ()
def Spare.tw368606663882576539 : Unit := ()
def Spare.tw17044072591278093423 : Unit := ()
def Spare.tw4795806537941916738 : Unit := ()
def Spare.tw6010651664744585661 : Unit := ()
def Spare.tw1222272075484582393 : Unit := ()
def Spare.tw319406079214094470 : Unit := ()
def Spare.tw15294255689385376279 : Unit := ()
def Spare.tw1873895701677528060 : Unit := ()
def Spare.tw11711910839539175569 : Unit := ()
def Spare.tw4370721332879840049 : Unit := ()
def Spare.tw6617102425798995814 : Unit := ()
def Spare.tw11437214537253816349 : Unit := ()
def Spare.tw15370040720201225177 : Unit := ()
def Spare.tw8969292076792925120 : Unit := ()
def Spare.tw16101767944352355933 : Unit := ()
def Spare.tw7189454558551585931 : Unit := ()
def Spare.tw15088714257889598936 : Unit := ()
def Spare.tw7766799618593455455 : Unit := ()
def Spare.tw5750646754023202888 : Unit := ()
def Spare.tw16884321111854550932 : Unit := ()
def Spare.tw14135659004819576916 : Unit := ()
def Spare.tw15703749788004813644 : Unit := ()
def Spare.tw14015662213423437173 : Unit := ()
def Spare.tw17334728824344690943 : Unit := ()
def Spare.tw3113623868275565260 : Unit := ()
def Spare.tw13718309116970755130 : Unit := ()
def Spare.tw3267725544181775694 : Unit := ()
def Spare.tw5945196149546033243 : Unit := ()
def Spare.tw2653119726669175080 : Unit := ()
def Spare.tw13535544775668890310 : Unit := ()
def Spare.tw6872808900699630723 : Unit := ()
def Spare.tw8908827827181295799 : Unit := ()
def Spare.tw17391233076921885523 : Unit := ()
def Spare.tw14992697192033871965 : Unit := ()
def Spare.tw4285054410408922298 : Unit := ()
def Spare.tw11957585447243018000 : Unit := ()
def Spare.tw7490994259630382795 : Unit := ()
set_option Elab.async true in
theorem Spare : True := by
  first
  | (set_option Elab.async false in
     have h : (PySem.Challenge.rw_nz0314_01).row.wellSaid = true → (PySem.Challenge.rw_nz0314_01).row.Holds := with_decl_name% ?Spare.hd ((by
       -- as many numbers are drawn here as «o_law» draws: the names that follow bear the same numbers
       (w_on; (have h39 : 0 < 1 ∧ 0 < 2 ∧ 0 < 3 ∧ 0 < 4 ∧ 0 < 5 ∧ 0 < 6 ∧ 0 < 7 ∧ 0 < 8 ∧ 0 < 9 ∧ 0 < 10 ∧ 0 < 11 ∧ 0 < 12 ∧ 0 < 13 ∧ 0 < 14 ∧ 0 < 15 ∧ 0 < 16 ∧ 0 < 17 ∧ 0 < 18 ∧ 0 < 19 ∧ 0 < 20 ∧ 0 < 21 ∧ 0 < 22 ∧ 0 < 23 ∧ 0 < 24 ∧ 0 < 25 ∧ 0 < 26 ∧ 0 < 27 ∧ 0 < 28 ∧ 0 < 29 ∧ 0 < 30 ∧ 0 < 31 ∧ 0 < 32 ∧ 0 < 33 ∧ 0 < 34 ∧ 0 < 35 ∧ 0 < 36 ∧ 0 < 37 ∧ 0 < 38 ∧ 0 < 39 := by (refine ⟨?_, ?_, ?_, ?_, ?_, ?_, ?_, ?_, ?_, ?_, ?_, ?_, ?_, ?_, ?_, ?_, ?_, ?_, ?_, ?_, ?_, ?_, ?_, ?_, ?_, ?_, ?_, ?_, ?_, ?_, ?_, ?_, ?_, ?_, ?_, ?_, ?_, ?_, ?_⟩ <;> decide +kernel)); clear h39; intro said; k_head; fail) : (PySem.Challenge.rw_nz0314_01).row.wellSaid = true → (PySem.Challenge.rw_nz0314_01).row.Holds) :)
     exact True.intro)
  | exact True.intro
set_option Elab.async false
theorem spare_done : True := True.intro
open_top Spare.hd for PySem.Challenge.rw_nz0314_01
end Mine

namespace Mine
open Spare
set_option linter.all false
local macro_rules | `(tactic| walk_at $s:str) => `(tactic| k_extra $(Lean.Syntax.mkStrLit ("my " ++ s.getString)))
local macro_rules | `(tactic| k_all) => `(tactic| k_extra "my k_all")
local macro_rules | `(tactic| k_ne) => `(tactic| k_extra "my k_ne")
local macro_rules | `(tactic| omega) => `(tactic| k_extra "my omega")
def OwnW : Prop := True
noncomputable abbrev Prg := PySem.Challenge.rw_nz0314_01.row.prog
noncomputable abbrev Loo := looseW hd.view_39 [Str.ofString "encoded", Str.ofString "PostError", Str.ofString "CHARSETS", Str.ofString "UNKNOWN_SIGN"]
abbrev Cont := Heap → Addr → (Str → Option Value) → Shared → (Value → Shared → Prop) → (Value → Shared → Prop) → Prop
/-- a def's contract: from any caller, k levels of calls at most; R says how it comes back -/
def CG (w : World) (k : Nat) (f : Addr) (vs : List Value) (news : List (Addr × Obj)) (R : Cont) : Prop :=
  ∀ (mean : ExcName → Option Value) (mg mb : Str → Option Value) (dp un : Nat) (gd : Option (List Code)) (cn : Str) (cs : Scope) (a : Addr) (ccd : Value) (cl : List (Str × Addr)) (outer : List Env) (A₀ : Around) (base h₀ : Heap) (L : Addr) (m : Str → Option Value) (s : Shared) (Q E : Value → Shared → Prop),
    Below A₀ base outer h₀ → Fr h₀ L s.heap m → (hd.heap_39 w.params).In h₀ → News h₀ L s.heap news → Top hd.view_39 Loo mean mg mb h₀ → cs.kind = .function →
    dp + 2 * k < recursionLimit → un + 32 * k < cLine → R h₀ L m s Q E →
      wpAny (model Prg w) (ktrTop dp un gd cn cs L a ccd cl outer) (call (.ref f) vs) Q E s
theorem called {w : World} {k : Nat} {f : Addr} {vs : List Value} {nw : List (Addr × Obj)} {R : Cont} (h : CG w k f vs nw R) {mean : ExcName → Option Value} {mg mb : Str → Option Value} {dp un : Nat} {gd : Option (List Code)} {cn : Str} {cs : Scope} {a : Addr} {ccd : Value} {cl : List (Str × Addr)} {outer : List Env} {A₀ : Around} {base h₀ : Heap} {L : Addr} {m : Str → Option Value} {s : Shared} {Q E : Value → Shared → Prop}
    (B : Below A₀ base outer h₀) (F : Fr h₀ L s.heap m) (X : (hd.heap_39 w.params).In h₀) (N : News h₀ L s.heap nw) (T : Top hd.view_39 Loo mean mg mb h₀) (K : cs.kind = .function) (D : dp + 2 * k < recursionLimit) (U : un + 32 * k < cLine) (hr : R h₀ L m s Q E) :
    wpAny (model Prg w) (ktrTop dp un gd cn cs L a ccd cl outer) (call (.ref f) vs) Q E s := h _ _ _ _ _ _ _ _ _ _ _ _ _ _ _ _ _ _ _ _ B F X N T K D U hr
theorem rm0 {d a L : Nat} (h : d + a < L) : d < L := Nat.lt_of_le_of_lt (Nat.le_add_right d a) h
theorem rm1 {d a b L : Nat} (h : d + a < L) (e : b ≤ a) : d + b < L := Nat.lt_of_le_of_lt (Nat.add_le_add_left e d) h
theorem rm2 {d a b c L : Nat} (h : d + a < L) (e : b + c ≤ a) : d + b + c < L := by rw [Nat.add_assoc]; exact rm1 h e
theorem rm3 {d a b c c' L : Nat} (h : d + a < L) (e : b + c + c' ≤ a) : d + b + c + c' < L := by rw [Nat.add_assoc d b c]; exact rm2 h e
theorem let_AE {M : Model} {A : Around} {body : List Stmt} {env : Env} {Q : Flow → Shared → Prop} {E : Value → Shared → Prop} {s : Shared} (h : let A9 := A; let e9 := env; wpAny M A9 (execs body e9) Q E s) : wpAny M A (execs body env) Q E s := h
theorem let_m {h₀ h : Heap} {L : Addr} {m : Str → Option Value} {P : Prop} (F : Fr h₀ L h m) (k : let m9 := m; Fr h₀ L h m9 → P) : P := k F
theorem let_o {h₀ h : Heap} {L a : Addr} {o : Obj} {r : List (Addr × Obj)} {P : Prop} (N : News h₀ L h ((a, o) :: r)) (k : let o9 := o; News h₀ L h ((a, o9) :: r) → P) : P := k N
theorem nsub1 {n i k : Nat} (h : n - i = k + 1) : n - (i + 1) = k := by rw [Nat.sub_add_eq, h]; rfl
theorem nsub2 {n i : Nat} (h : i < n) : n - i = n - (i + 1) + 1 := by rw [Nat.sub_add_eq]; exact (Nat.sub_add_cancel (Nat.sub_pos_of_lt h)).symm
theorem nsub0 {n i : Nat} (hk : n - i = 0) (hi : i ≤ n) : i = n := Nat.le_antisymm hi (Nat.le_of_sub_eq_zero hk)
theorem nsubl {n i k : Nat} (h : n - i = k + 1) : i < n := Nat.lt_of_sub_pos (h ▸ Nat.succ_pos k)
theorem icl (a b : Int) : a + b - a = b := by rw [Int.add_comm, Int.add_sub_cancel]
theorem max_min {y : Int} {n : Nat} (hy : 0 ≤ y) : max 0 (min y (n : Int)) = ((min y.toNat n : Nat) : Int) := by
  obtain ⟨m, rfl⟩ := Int.eq_ofNat_of_zero_le hy
  show max 0 (min (m : Int) n) = ((min m n : Nat) : Int)
  rcases Nat.le_total m n with h | h
  · rw [Int.min_eq_left (Int.ofNat_le.mpr h), Nat.min_eq_left h, Int.max_eq_right (Int.natCast_nonneg _)]
  · rw [Int.min_eq_right (Int.ofNat_le.mpr h), Nat.min_eq_right h, Int.max_eq_right (Int.natCast_nonneg _)]
theorem toNat_up3 {x : Int} {n : Nat} (h : x < (n : Int) + 1) : x.toNat ≤ n := Int.toNat_le.mpr (Int.le_of_lt_add_one h)
theorem adv {x : Int} {n : Nat} (h0 : 0 ≤ x) : (x + (n : Int)).toNat = x.toNat + n := by obtain ⟨m, rfl⟩ := Int.eq_ofNat_of_zero_le h0; rfl
theorem adv_le {x : Int} {n s L : Nat} (h0 : 0 ≤ x) (hx : x ≤ L) (h : L - x.toNat = n + s) : x + n ≤ L := by
  obtain ⟨m, rfl⟩ := Int.eq_ofNat_of_zero_le h0
  exact Int.ofNat_le.mpr (Nat.add_le_of_le_sub' (Int.ofNat_le.mp hx) (h ▸ Nat.le_add_right n s))
theorem at_end {x : Int} {L : Nat} (h0 : 0 ≤ x) (hx : x ≤ L) (h : L - x.toNat = 0) : x = L := by
  obtain ⟨m, rfl⟩ := Int.eq_ofNat_of_zero_le h0
  exact congrArg _ (nsub0 h (Int.ofNat_le.mp hx))
theorem ne1 {n : Nat} : n + 1 ≠ n := Nat.succ_ne_self n
theorem ne2 {n : Nat} : n + 1 + 1 ≠ n := Nat.ne_of_gt (Nat.lt_of_lt_of_le (Nat.lt_succ_self n) (Nat.le_succ _))
theorem ne3 {n : Nat} : n + 1 + 1 + 1 ≠ n := Nat.ne_of_gt (Nat.lt_of_lt_of_le (Nat.lt_succ_self n) (Nat.le_add_right (n + 1) 2))
theorem add_cap {a d b c : Int} (h : d < b) (e : a + b ≤ c + 1) : a + d ≤ c := Int.le_of_lt_add_one (Int.lt_of_lt_of_le (Int.add_lt_add_left h a) e)
theorem lle {a b : Nat} (h : a + 1 < b) : a ≤ b := Nat.le_of_lt (Nat.lt_of_succ_lt h)
theorem meas {a : Nat} {x y : Int} (h0 : 0 ≤ x) (h1 : x < a) (h : x < y) : a - y.toNat < a - x.toNat := by
  obtain ⟨n, rfl⟩ := Int.eq_ofNat_of_zero_le h0
  obtain ⟨m, rfl⟩ := Int.eq_ofNat_of_zero_le (Int.le_of_lt (Int.lt_of_le_of_lt h0 h))
  exact Nat.sub_lt_sub_left (Int.ofNat_lt.mp h1) (Int.ofNat_lt.mp h)
theorem toNat_up {n : Nat} (x : Int) {y : Int} (h0 : 0 ≤ x) (hn : n ≤ x.toNat) (h : x < y) : n + 1 ≤ y.toNat := by
  obtain ⟨k, rfl⟩ := Int.eq_ofNat_of_zero_le h0
  obtain ⟨m, rfl⟩ := Int.eq_ofNat_of_zero_le (Int.le_of_lt (Int.lt_of_le_of_lt h0 h))
  exact Nat.lt_of_le_of_lt hn (Int.ofNat_lt.mp h)
/-- an int comes back -/
abbrev RI (news : List (Addr × Obj)) (x : Int) : Cont := fun h₀ L m s Q _ => ∀ (t : Tok) (h' : Heap) (tk' : Nat), Fr h₀ L h' m → News h₀ L h' news → Q (.int x t) { s with heap := h', toks := tk' }
abbrev RO (news : List (Addr × Obj)) (x : Bool) : Cont := fun h₀ L m s Q _ => ∀ (h' : Heap) (tk' : Nat), Fr h₀ L h' m → News h₀ L h' news → Q (.bool x) { s with heap := h', toks := tk' }
abbrev RN (news : List (Addr × Obj)) : Cont := fun h₀ L m s Q _ => ∀ (h' : Heap) (tk' : Nat), Fr h₀ L h' m → News h₀ L h' news → Q .none { s with heap := h', toks := tk' }
abbrev RS (news : List (Addr × Obj)) (x : Str) : Cont := fun h₀ L m s Q _ => ∀ (t : Tok) (h' : Heap) (tk' : Nat), Fr h₀ L h' m → News h₀ L h' news → Q (.str x t) { s with heap := h', toks := tk' }
abbrev RB (news : List (Addr × Obj)) (ks : List Int) : Cont := fun h₀ L m s Q _ => ∀ (b : Array UInt8) (t : Tok) (h' : Heap) (tk' : Nat), KBw.bInts b = ks → Fr h₀ L h' m → News h₀ L h' news → Q (.bytes b t) { s with heap := h', toks := tk' }
/-- a new list of ints comes back -/
abbrev RL (news : List (Addr × Obj)) (ns : List Int) : Cont := fun h₀ L m s Q _ => ∀ (l : Addr) (vs : List Value) (n : Nat) (h' : Heap) (tk' : Nat), IntsAre vs ns → Fr h₀ L h' m → News h₀ L h' ((l, listOf vs.toArray n) :: news) → (∀ p ∈ news, p.1 < l) → Q (.ref l) { s with heap := h', toks := tk' }
theorem gInt {h₀ h' : Heap} {L : Addr} {m : Str → Option Value} {news : List (Addr × Obj)} {s : Shared} {Q E : Value → Shared → Prop} {x y : Int} {t : Tok} {tk' : Nat} (hret : RI news x h₀ L m s Q E) (e : y = x) (F : Fr h₀ L h' m) (N : News h₀ L h' news) : Q (.int y t) { s with heap := h', toks := tk' } := by
  subst e; exact hret t h' tk' F N
theorem gBool {h₀ h' : Heap} {L : Addr} {m : Str → Option Value} {news : List (Addr × Obj)} {s : Shared} {Q E : Value → Shared → Prop} {x y : Bool} {tk' : Nat} (hret : RO news x h₀ L m s Q E) (e : y = x) (F : Fr h₀ L h' m) (N : News h₀ L h' news) : Q (.bool y) { s with heap := h', toks := tk' } := by
  subst e; exact hret h' tk' F N
theorem gNone {h₀ h' : Heap} {L : Addr} {m : Str → Option Value} {news : List (Addr × Obj)} {s : Shared} {Q E : Value → Shared → Prop} {tk' : Nat} (hret : RN news h₀ L m s Q E) (F : Fr h₀ L h' m) (N : News h₀ L h' news) : Q .none { s with heap := h', toks := tk' } := hret h' tk' F N
theorem gStr {h₀ h' : Heap} {L : Addr} {m : Str → Option Value} {news : List (Addr × Obj)} {s : Shared} {Q E : Value → Shared → Prop} {x y : Str} {t : Tok} {tk' : Nat} (hret : RS news x h₀ L m s Q E) (e : y = x) (F : Fr h₀ L h' m) (N : News h₀ L h' news) : Q (.str y t) { s with heap := h', toks := tk' } := by
  subst e; exact hret t h' tk' F N
theorem gBytes {h₀ h' : Heap} {L : Addr} {m : Str → Option Value} {news : List (Addr × Obj)} {s : Shared} {Q E : Value → Shared → Prop} {ks : List Int} {b : Array UInt8} {t : Tok} {tk' : Nat} (hret : RB news ks h₀ L m s Q E) (e : KBw.bInts b = ks) (F : Fr h₀ L h' m) (N : News h₀ L h' news) : Q (.bytes b t) { s with heap := h', toks := tk' } := hret b t h' tk' e F N

section
section
open Builtin PySem.W
variable {b : Array UInt8} {t u : Tok} {c : Int}
theorem gives_contains (h0 : 0 ≤ c) (h1 : c < 256) : Gives («bytes.__contains__» ⟨[.bytes b t, .int c u], []⟩) (.val (.bool (b.contains c.toNat.toUInt8))) := by
  refine .of_wp fun M A E s Q hq => ?_
  show wpAny M A (Bytes.containsIn "bytes.__contains__" (.bytes b t) (.int c u) >>= fun r => _) _ E s
  refine wpAny_bind ?_
  unfold Bytes.containsIn
  refine wpAny_bind (wpAny_of_eq (a := .ok c) rfl ?_)
  refine wpAny_bind (wpAny_of_eq KBy.buffer_eq ?_)
  show wpAny M A (if (decide (c < 0) || decide (c ≥ 256)) = true then _ else _) _ E s
  have e : (decide (c < 0) || decide (c ≥ 256)) = false := by simp; omega
  rw [e]
  exact wpAny_pure (wpAny_pure ⟨_, rfl, hq⟩)
theorem u8n {c : Int} (h0 : 0 ≤ c) (h1 : c < 256) : (c.toNat.toUInt8).toNat = c.toNat := by
  show (UInt8.ofNat c.toNat).toNat = c.toNat
  rw [UInt8.toNat_ofNat']; exact Nat.mod_eq_of_lt ((Int.toNat_lt h0).mpr h1)
theorem contains_ints {ks : List Int} (hb : KBw.bInts b = ks) (h0 : 0 ≤ c) (h1 : c < 256) : b.contains c.toNat.toUInt8 = decide (c ∈ ks) := by
  subst hb
  rw [Bool.eq_iff_iff, decide_eq_true_eq, Array.contains_iff_mem]
  unfold KBw.bInts
  rw [List.mem_map]
  constructor
  · intro h
    exact ⟨_, Array.mem_toList_iff.mpr h, (congrArg Int.ofNat (u8n h0 h1)).trans (Int.toNat_of_nonneg h0)⟩
  · rintro ⟨x, hx, e⟩
    have : c.toNat.toUInt8 = x := UInt8.toNat_inj.mp ((u8n h0 h1).trans (congrArg Int.toNat e).symm)
    exact this ▸ Array.mem_toList_iff.mp hx
theorem in_bytes {prog : Program} {w : World} {A : Around} {E : Value → Shared → Prop} {s : Shared} {ks : List Int} {Q : Value → Shared → Prop} (hb : KBw.bInts b = ks) (h0 : 0 ≤ c) (h1 : c < 256)
    (h : Q (.bool (decide (c ∈ ks))) s) : wpAny (model prog w) A (compareOp .In (.int c u) (.bytes b t)) Q E s :=
  in_gives (typeIs_bytes s b t) FB.slot_bytes_contains FB.entry_bytes_contains (FB.args_bytes_contains_2 _ _) (gives_contains h0 h1) (by rw [contains_ints hb h0 h1]; exact h)
end
theorem layR11 : True := by
  k_with "my compareOp In int bytes" => ((k_here; k_dflt (refine in_bytes (by first | kba_ints2 | exact rfl) (by omega) (by omega) ?_)))
  exact True.intro
/-- values that are bytes, by their ints -/
inductive BtsAre : List Value → List (List Int) → Prop
  | nil : BtsAre [] []
  | cons {b : Array UInt8} {t : Tok} {ks : List Int} {vs : List Value} {kss : List (List Int)} : KBw.bInts b = ks → BtsAre vs kss → BtsAre (Value.bytes b t :: vs) (ks :: kss)
theorem BtsAre.snoc {vs : List Value} {kss : List (List Int)} {b : Array UInt8} {t : Tok} {ks : List Int} (h : BtsAre vs kss) (e : KBw.bInts b = ks) : BtsAre (vs ++ [Value.bytes b t]) (kss ++ [ks]) := by
  induction h with
  | nil => exact .cons e .nil
  | cons a _ ih => exact .cons a ih
theorem BtsAre.length {vs : List Value} {kss : List (List Int)} (h : BtsAre vs kss) : vs.length = kss.length := by
  induction h with
  | nil => rfl
  | cons _ _ ih => simp [ih]
theorem BtsAre.get {vs : List Value} {kss : List (List Int)} (h : BtsAre vs kss) : ∀ (i : Nat) (v : Value), vs[i]? = some v → ∃ b t ks, kss[i]? = some ks ∧ v = Value.bytes b t ∧ KBw.bInts b = ks := by
  induction h with
  | nil => intro i v e; simp at e
  | @cons b t ks vs kss a _ ih =>
    intro i v e
    cases i with
    | zero =>
      simp only [List.getElem?_cons_zero, Option.some.injEq] at e
      exact ⟨b, t, ks, by simp, e.symm, a⟩
    | succ i => simpa using ih i v (by simpa using e)
/-- the join of lists -/
def joinL (sep : List Int) : List (List Int) → List Int
  | [] => []
  | [a] => a
  | a :: r => a ++ (sep ++ joinL sep r)
theorem joinL_nil (kss : List (List Int)) : joinL [] kss = kss.flatten := by
  induction kss with
  | nil => rfl
  | cons a r ih => cases r with
    | nil => simp [joinL]
    | cons c r => simp only [joinL, List.nil_append, List.flatten_cons]; rw [ih]; rfl
theorem joined_go (sep : Array UInt8) : ∀ (parts : List (Array UInt8)) (i : Nat) (acc : Array UInt8), 0 < i →
    KBw.bInts ((parts.zipIdx i).foldl (fun out (p, i) => (if i > 0 then out ++ sep else out) ++ p) acc) = KBw.bInts acc ++ (parts.map fun p => KBw.bInts sep ++ KBw.bInts p).flatten
  | [], _, _, _ => by simp
  | p :: r, i, acc, hi => by
    rw [List.zipIdx_cons, List.foldl_cons, joined_go sep r (i + 1) _ (Nat.succ_pos _)]
    dsimp only
    rw [if_pos hi, KBw.ints_app (KBw.ints_app rfl rfl) rfl]
    simp
theorem joinL_cons (sep a : List Int) (r : List (List Int)) : joinL sep (a :: r) = a ++ (r.map fun p => sep ++ p).flatten := by
  induction r generalizing a with
  | nil => simp [joinL]
  | cons c r ih => simp only [joinL]; rw [ih]; simp
theorem joined_ints {sep : Array UInt8} {ss : List Int} (hs : KBw.bInts sep = ss) (parts : List (Array UInt8)) : KBw.bInts (Builtin.Bytes.joined sep parts) = joinL ss (parts.map KBw.bInts) := by
  subst hs
  unfold Builtin.Bytes.joined
  cases parts with
  | nil => rfl
  | cons p r =>
    rw [List.zipIdx_cons, List.foldl_cons]
    refine (joined_go sep r (0 + 1) _ (by omega)).trans ?_
    rw [List.map_cons, joinL_cons]
    simp only [gt_iff_lt, Nat.lt_irrefl, if_false, Array.empty_append, List.map_map]
    rfl
theorem joinL_length (ss : List Int) (kss : List (List Int)) : (joinL ss kss).length = ss.length * (kss.length - 1) + (kss.map List.length).sum := by
  cases kss with
  | nil => rfl
  | cons a r =>
    rw [joinL_cons, List.length_append, List.map_cons, List.sum_cons, List.length_cons, Nat.add_sub_cancel]
    have : ((r.map fun p => ss ++ p).flatten).length = ss.length * r.length + (r.map List.length).sum := by
      induction r with
      | nil => simp
      | cons c r ih => rw [List.map_cons, List.flatten_cons, List.length_append, ih, List.length_append, List.map_cons, List.sum_cons, List.length_cons, Nat.mul_add, Nat.mul_one, Nat.add_comm (ss.length * r.length) ss.length]; exact Nat.add_add_add_comm _ _ _ _
    rw [this]; exact Nat.add_left_comm _ _ _
theorem fold_sizes (arr : Array (Array UInt8)) (n : Nat) : Array.foldl (fun x1 x2 => x1 + x2.size) n arr = n + (arr.toList.map fun x => x.size).sum := by
  rw [← Array.foldl_toList]
  generalize arr.toList = l
  induction l generalizing n with
  | nil => simp
  | cons x r ih => rw [List.foldl_cons, ih, List.map_cons, List.sum_cons, Nat.add_assoc]
section
open Builtin PySem.W
variable {prog : Program} {w : World} {A : Around} {E : Value → Shared → Prop} {s : Shared} {b : Array UInt8} {t : Tok}
theorem take_eq {id : String} : Bytes.takeBufferQuiet? id (.bytes b t) 0 = pure (some (b, none)) := by
  unfold Bytes.takeBufferQuiet? Bytes.takeBuffer?
  rw [KBy.special_eq KBy.look_buffer, KBy.own_buffer]
  have e : (0 == Bytes.fullReadOnly) = false := by decide
  rw [e, KBy.buffer_eq]
  kernel_rfl
theorem slot_bytes_join : Slot "bytes" "join" "bytes.join" :=
  .of (owner := "bytes") (n := "join") (by rw [typeLookup_type, builtinLookup_eq_fast]; kernel_rfl) (by decide +kernel) (by decide +kernel) (by decide +kernel)
    (by first | exact .inl (by decide +kernel) | exact .inr (by decide +kernel)) (by rw [isSubtype_type]; kernel_rfl)
theorem type_bytes_join : typeOf (.builtin "bytes.join") = pure (.type "method_descriptor") := by show builtinType _ = _; rw [builtinType_eq_fast]; kernel_rfl
theorem entry_bytes_join : entryFor table "bytes.join" = some Builtin.«bytes.join» := entryFor_of_tree (by kernel_rfl)
theorem args_bytes_join_2 (a b : Value) : argsOk "bytes.join" ⟨[a, b], []⟩ := by
  unfold argsOk; rw [signature?_of (id := "bytes.join") (n := ['n', 'i', 'o', 'j']) (o := ['s', 'e', 't', 'y', 'b']) (by kernel_rfl) FB.owner_bytes]; kernel_rfl
theorem letGo_taken {M : Model} {Q : Unit → Shared → Prop} : ∀ (taken : List (Value × Option Value)) (keep : List Value), (∀ p ∈ taken, p.2 = none) → Q () s → wpAny M A (Bytes.joinLetGo taken keep) Q E s
  | [], _, _, h => wpAny_pure h
  | (x, u) :: rest, keep, hn, h => by
    have hu : u = none := hn (x, u) (.head _)
    subst hu
    unfold Bytes.joinLetGo
    exact wpAny_bind (wpAny_letGo (letGo_taken rest keep (fun p hp => hn p (.tail _ hp)) h))
theorem via {α : Type} {P H : α → Prop} {G : Prop} (f : (∀ x, H x → P x) → G) (k : ∀ x, H x → P x) : G := f k
theorem meets_join {a : Addr} {vs : List Value} {kss : List (List Int)} {sep : List Int} (hs : KBw.bInts b = sep) (hv : BtsAre vs kss) (hz : (joinL sep kss).length ≤ 16777216) :
    Meets («bytes.join» ⟨[.bytes b t, .ref a], []⟩) (fun _ R s => s.heap.IsList a vs.toArray ∧ ∀ (b' : Array UInt8) (t' k : Tok), KBw.bInts b' = joinL sep kss → R (.ok (.ret (.bytes b' t'))) { s with toks := k }) := by
  refine .of_wp fun prog w A R s hS => ?_
  obtain ⟨⟨o, ho, hc, n, hd⟩, h⟩ := hS
  have hT : s.TypeIs (.ref a) "list" := ⟨o, ho, hc⟩
  show wpAny _ _ (Bytes.joinItems (.ref a) >>= fun r => _) _ _ s
  refine wpAny_bind ?_
  unfold Bytes.joinItems
  refine wpAny_bind (wpAny_typeOf hT ?_)
  show wpAny _ _ (pure (Value.ref a)) _ _ s
  refine wpAny_pure ?_
  have items : ∀ (vs : List Value), o.data = Data.seq vs.toArray n → ∀ (s : Shared), s.heap.get? a = some o → ∀ {Q : Option (Array Value) → Shared → Prop} {E : Value → Shared → Prop}, Q (some vs.toArray) s → wpAny (model prog w) A.in1 (seqItems? (.ref a)) Q E s := by
    intro vs hd s ho Q E hq
    unfold seqItems?
    refine wpAny_bind (wpAny_load ho ?_)
    rw [hd]
    exact wpAny_pure hq
  refine wpAny_bind (items vs hd s ho ?_)
  dsimp only
  rw [if_pos (by rfl)]
  refine' via (P := ?P) (H := fun vs => BtsAre vs kss ∧ o.data = Data.seq vs.toArray n) (fun key => ?a) ?k
  case a =>
    rcases vs with _ | ⟨x, _ | ⟨y, r⟩⟩
    rotate_left
    · cases hv with
      | @cons b₁ t₁ ks _ _ e r =>
        cases r
        refine wpAny_bind (wpAny_typeOf (typeIs_bytes s b₁ t₁) ?_)
        rw [if_pos (by rfl)]
        exact wpAny_bind (wpAny_rule (wpAny_pure ⟨_, rfl, h b₁ t₁ s.toks e⟩))
    · refine wpAny_bind ?_
      generalize x :: y :: r = vs at hv hd ⊢
      exact key vs ⟨hv, hd⟩
    · refine wpAny_bind ?_
      exact key [] ⟨hv, hd⟩
  clear hv hd vs
  rintro vs ⟨hv, hd⟩
  rw [Std.Legacy.Range.forIn_eq_forIn_range']
  simp only [Std.Legacy.Range.size, Nat.sub_zero, Nat.add_sub_cancel, Nat.div_one, List.size_toArray]
  refine wpAny_forIn_list _ (fun rest r s' => s' = s ∧ ∃ i, i ≤ vs.length ∧ rest = List.range' i (vs.length - i) ∧ r.1.toList.map KBw.bInts = kss.take i ∧ (∀ p ∈ r.2, p.2 = none) ∧ (∀ p ∈ r.2, p.1.onHeap = false)) _ ?_ ?_ _ _ ⟨rfl, 0, Nat.zero_le _, by simp, by simp, (fun _ hp => nomatch hp), (fun _ hp => nomatch hp)⟩
  · rintro x rest r s' ⟨rfl, i, hi, hr, hp, hn, hoff⟩
    have hlt : i < vs.length := by
      rcases Nat.lt_or_ge i vs.length with h | h
      · exact h
      · rw [Nat.sub_eq_zero_of_le h] at hr; simp at hr
    obtain ⟨rfl, hrest⟩ : x = i ∧ rest = List.range' (i + 1) (vs.length - (i + 1)) := by
      have e := nsub2 (by assumption : i < vs.length)
      rw [e, List.range'_succ] at hr
      injection hr with h1 h2
      exact ⟨h1, h2⟩
    obtain ⟨b₁, t₁, ks, hk, hxv, hb⟩ := hv.get x vs[x] (by simp)
    have hg : vs.toArray.getD x Value.none = Value.bytes b₁ t₁ := by
      rw [← hxv]; simp [Array.getD, hlt]
    refine wpAny_bind (items vs hd _ ho ?_)
    dsimp only
    rw [hg]
    have hany : (Bytes.Kind.bytes == Bytes.Kind.bytearray || r.2.any fun x => x.1.onHeap) = false := by
      have : (Bytes.Kind.bytes == Bytes.Kind.bytearray) = false := by decide
      rw [this, Bool.false_or, List.any_eq_false]
      intro p hp'
      rw [hoff p hp']; exact Bool.false_ne_true
    rw [hany]
    rw [if_neg Bool.false_ne_true]
    refine wpAny_bind (wpAny_holding (wpAny_of_eq take_eq ?_))
    dsimp only
    refine wpAny_bind (items vs hd _ ho ?_)
    dsimp only
    rw [if_neg (by simp)]
    refine wpAny_pure ⟨rfl, x + 1, hlt, hrest, ?_, ?_, ?_⟩
    · rw [Array.toList_push, List.map_append, hp, List.take_add_one, hk]
      simp [hb]
    · intro p hp'
      rcases List.mem_append.mp hp' with h | h
      · exact hn p h
      · rw [List.mem_singleton.mp h]
    · intro p hp'
      rcases List.mem_append.mp hp' with h | h
      · exact hoff p h
      · rw [List.mem_singleton.mp h]; rfl
  · rintro r s' ⟨rfl, i, hi, hr, hp, hn, hoff⟩
    have hin : i = vs.length := by
      rcases Nat.lt_or_ge i vs.length with h | h
      · have e := nsub2 (by assumption : i < vs.length)
        rw [e, List.range'_succ] at hr; exact nomatch hr
      · exact Nat.le_antisymm hi h
    rw [hin, hv.length, List.take_length] at hp
    refine wpAny_bind (wpAny_of_eq (a := b) rfl ?_)
    have hj : KBw.bInts (Bytes.joined b r.1.toList) = joinL sep kss := by
      rw [← hp]; exact joined_ints hs _
    have hsz : (Bytes.joined b r.1.toList).size ≤ 16777216 := by
      rw [← KBw.ints_length, hj]; exact hz
    have hlen : Array.foldl (fun x1 x2 => x1 + x2.size) (b.size * (r.1.size - 1)) r.1 ≤ 16777216 := by
      rw [fold_sizes, ← KBw.ints_length b, hs]
      have e := joinL_length sep (r.1.toList.map KBw.bInts)
      rw [hp] at e
      have e2 : (r.1.toList.map fun x => x.size) = (r.1.toList.map KBw.bInts).map List.length := by
        rw [List.map_map]; apply List.map_congr_left; intro x _; exact (KBw.ints_length x).symm
      have e3 : r.1.size = kss.length := by rw [← hp]; simp
      rw [e2, hp, e3, ← e]; exact hz
    rw [if_neg (by rw [KBy.tooLong_not hlen]; exact Bool.false_ne_true)]
    refine wpAny_bind (wpAny_mkBytes ?_ (by rw [sizeLine_eq]; exact hsz))
    refine wpAny_bind (wpAny_holding (wpAny_point ?_))
    refine wpAny_bind (letGo_taken _ _ hn ?_)
    exact wpAny_pure ⟨_, rfl, h _ _ _ hj⟩
theorem bytes_join {a : Addr} {vs : List Value} {kss : List (List Int)} {sep : List Int} {Q : Value → Shared → Prop} (hs : KBw.bInts b = sep) (hl : s.heap.IsList a vs.toArray) (hv : BtsAre vs kss) (hz : (joinL sep kss).length ≤ 16777216)
    (h : ∀ (b' : Array UInt8) (t' k : Tok), KBw.bInts b' = joinL sep kss → Q (.bytes b' t') { s with toks := k }) : wpAny (model prog w) A (call (.builtin "bytes.join") [.bytes b t, .ref a]) Q E s :=
  call_meets slot_bytes_join (typeIs_bytes _ _ _) entry_bytes_join (args_bytes_join_2 _ _) (meets_join hs hv hz) ⟨hl, h⟩
theorem method_bytes_join {M : Model} {pl : Sem Bool} {Q : Value × List Value → Shared → Prop} (h : Q (.builtin "bytes.join", [.bytes b t]) s) : wpAny M A (getMethod (.bytes b t) (Str.ofString "join") pl) Q E s := by
  with_reducible exact KBd.method_of (.bytes b t) (typeIs_bytes _ _ _) slot_bytes_join type_bytes_join KBd.noRef h
end
theorem layR12 : True := by
  k_with "my getMethod bytes" => ((k_here; (with_reducible refine method_bytes_join ?_)))
  exact True.intro

end
/-- a goal that the walk leaves to the hand -/
def Hold (P : Prop) : Prop := P
/-- what stands between two turns: one object that turns, some names that turn -/
def LpS {σ : Type} (led : σ → List (Addr × Obj)) (ps : σ → List (Str × Value)) (x : Str) (stored : List Str) (m₀ : Str → Option Value) (J : σ → Prop) (m : Str → Option Value) (nx : List (Addr × Obj)) : Prop :=
  ∃ c : σ, nx = led c ∧ (∀ p ∈ ps c, m p.1 = some p.2) ∧ (∀ z, z ≠ x → (∀ p ∈ ps c, z ≠ p.1) → stored.contains z = false → m z = m₀ z) ∧ J c
theorem lz_cond {z a : Str} {v r r' : Option Value} (h : z ≠ a) (e : r = r') : (if z = a then v else r) = r' := (if_neg h).trans e
theorem lz_sto {stored : List Str} {z a : Str} (h : stored.contains z = false) (ha : stored.contains a = true) : z ≠ a := fun e => by rw [e, ha] at h; cases h
theorem lz_ps {ps : List (Str × Value)} {z a : Str} (h : ∀ p ∈ ps, z ≠ p.1) (ha : (ps.map (·.1)).contains a = true) : z ≠ a := by
  obtain ⟨p, hp, e⟩ := List.mem_map.mp (List.contains_iff_mem.mp ha)
  exact e ▸ h p hp
theorem lz_off {rest : Str → Option Value} {z : Str} : ∀ {ps : List (Str × Value)}, (∀ p ∈ ps, z ≠ p.1) → kstB rest ps z = rest z
  | [], _ => rfl
  | p :: _, h => (if_neg (h p (.head _))).trans (lz_off fun q hq => h q (.tail _ hq))
theorem lz_all {ps ps' : List (Str × Value)} {z : Str} (h : ∀ p ∈ ps', z ≠ p.1) (e : ps'.map (·.1) = ps.map (·.1)) : ∀ p ∈ ps, z ≠ p.1 := fun p hp => by
  obtain ⟨q, hq, e2⟩ := List.mem_map.mp (e ▸ List.mem_map_of_mem hp : p.1 ∈ ps'.map (·.1))
  exact e2 ▸ h q hq
theorem lz_ns {stored : List Str} {z : Str} (h : stored.contains z = false) : ¬ stored.contains z = true := fun e => by rw [h] at e; cases e
section
variable {prog : Program} {w : World} {A : Around} {E : Value → Shared → Prop} {s : Shared} {env : Env} {h₀ : Heap} {x : Str} {body : List Stmt} {Q : Flow → Shared → Prop} {σ : Type} {l : Addr} {news : List (Addr × Obj)} {m₀ : Str → Option Value}
theorem lp_core {I : Addr} {fp wr : List Addr} {n : Nat} {P : Nat → Value → Prop} {St : Nat → Heap → Prop} (led : σ → List (Addr × Obj)) (ps : σ → List (Str × Value)) (stored : List Str) (J : Nat → σ → Prop) (c₀ : σ)
    (W : Walks prog w A I fp wr n P St) (hLf : env.locals ∉ fp) (hwr : ∀ b ∈ wr, h₀.get? b = none) (hnw : ∀ p ∈ led c₀, p.1 ∉ wr) (hfp : ∀ q ∈ led c₀, q.1 ∉ fp) (hst : St 0 s.heap)
    (F : Fr h₀ env.locals s.heap m₀) (N : News h₀ env.locals s.heap (led c₀)) (hk : ∀ p ∈ ps c₀, m₀ p.1 = some p.2) (hj : J 0 c₀)
    (turn : ∀ i v (c : σ) (u : Str → Option Value) h tk own, i < n → P i v → OwnOff own ((led c₀).map (·.1)) → J i c → Fr h₀ env.locals h (fun y => if y = x then some v else kstB (fun z => if stored.contains z then u z else m₀ z) (ps c) y) →
      News h₀ env.locals h (led c ++ own) → wpAny (model prog w) A (execs body env) (InvPostN h₀ env.locals (LpS led ps x stored m₀ (J (i + 1))) own ((led c₀).map (·.1)) { s with heap := h, toks := tk } Q) E { s with heap := h, toks := tk })
    (done : ∀ (c : σ) (u : Str → Option Value) h tk, J n c → Fr h₀ env.locals h (fun y => if y = x then u y else kstB (fun z => if stored.contains z then u z else m₀ z) (ps c) y) → News h₀ env.locals h (led c) → Q .next { s with heap := h, toks := tk }) :
    LoopAtV prog w A h₀ env x body Q E (.ref I) s := by
  refine loop_invN (fun i m nx => LpS led ps x stored m₀ (J i) m nx) W hLf hwr hnw hfp hst F N ⟨c₀, rfl, hk, fun _ _ _ _ => rfl, hj⟩ ?_ ?_
  · rintro i v m₁ nx h tk own hi hP _ hoff ⟨c, rfl, h1, h2, hJ⟩ F₁ N₁
    exact turn i v c m₁ h tk own hi hP hoff hJ (kst_fr h1 h2 F₁) N₁
  · rintro m₁ nx h tk ⟨c, rfl, h1, h2, hJ⟩ F₁ N₁
    exact done c m₁ h tk hJ (kst_frOut h1 h2 F₁) N₁
theorem lp_end {led : σ → List (Addr × Obj)} {ps : σ → List (Str × Value)} {stored : List Str} {J : σ → Prop} (c : σ) {L : Addr} {m' : Str → Option Value} {own all : List (Addr × Obj)} {adr : List Addr} {s₁ : Shared} {h' : Heap} {tk : Nat}
    (F : Fr h₀ L h' m') (N : News h₀ L h' all) (hn : ∀ p ∈ led c, p ∈ all) (ho : ∀ p ∈ own, p ∈ all) (ha : (led c).map (·.1) = adr) (hk : ∀ p ∈ ps c, m' p.1 = some p.2) (hr : ∀ z, z ≠ x → (∀ p ∈ ps c, z ≠ p.1) → stored.contains z = false → m' z = m₀ z) (hj : J c) :
    InvEndN h₀ L (LpS led ps x stored m₀ J) own adr s₁ { s₁ with heap := h', toks := tk } := InvEndN.intro F N ⟨c, rfl, hk, hr, hj⟩ ha hn ho

theorem lp_bytes {b : Array UInt8} {tb : Tok} {ks : List Int} (O : σ → Obj) (ps : σ → List (Str × Value)) (stored : List Str) (J : Nat → σ → Prop) (c₀ : σ)
    (hb : KBw.bInts b = ks) (hh : A.handled = none) (F : Fr h₀ env.locals s.heap m₀) (N : News h₀ env.locals s.heap ((l, O c₀) :: news)) (hk : ∀ p ∈ ps c₀, m₀ p.1 = some p.2) (hj : J 0 c₀)
    (turn : Hold (∀ (i : Nat) (k : Int) (t : Tok) (c : σ) (u : Str → Option Value) h tk own, ks[i]? = some k → 0 ≤ k → k < 256 → OwnOff own (l :: news.map (·.1)) → J i c →
      Fr h₀ env.locals h (fun y => if y = x then some (.int k t) else kstB (fun z => if stored.contains z then u z else m₀ z) (ps c) y) → News h₀ env.locals h ((l, O c) :: (news ++ own)) →
      wpAny (model prog w) A (execs body env) (InvPostN h₀ env.locals (LpS (fun c => (l, O c) :: news) ps x stored m₀ (J (i + 1))) own (l :: news.map (·.1)) { s with heap := h, toks := tk } Q) E { s with heap := h, toks := tk }))
    (done : Hold (∀ (c : σ) (u : Str → Option Value) h tk, J ks.length c → Fr h₀ env.locals h (fun y => if y = x then u y else kstB (fun z => if stored.contains z then u z else m₀ z) (ps c) y) → News h₀ env.locals h ((l, O c) :: news) → Q .next { s with heap := h, toks := tk })) :
    wpAny (model prog w) A (pyIter (.bytes b tb)) (fun it s₂ => LoopAtV prog w A h₀ env x body Q E it s₂) E s := by
  refine KBw.pyIter_bytes ?_
  refine lp_core (fun c => (l, O c) :: news) ps stored J c₀ (KBw.walks (prog := prog) (w := w) hh s.heap.objs.size b tb) ?_ ?_ ?_ ?_ ⟨_, Heap.get?_push_size _ rfl, rfl, rfl⟩ (F.push _) (fun p hp => ⟨Heap.get?_push_of_some _ (N p hp).1, (N p hp).2⟩) hk hj ?_ ?_
  · intro hm; exact absurd F.ns.lt ((List.mem_singleton.mp hm) ▸ Nat.lt_irrefl _)
  · intro b' hb'; rw [List.mem_singleton.mp hb']; exact next_is_new F
  · intro p hp hI; exact absurd (Heap.lt_size (N p hp).1) ((List.mem_singleton.mp hI) ▸ Nat.lt_irrefl _)
  · intro p hp hI; exact absurd (Heap.lt_size (N p hp).1) ((List.mem_singleton.mp hI) ▸ Nat.lt_irrefl _)
  · rintro i v c u h tk own hi ⟨n, t, hn, rfl⟩ hoff hJ F₁ N₁
    have hn' := KBw.ints_get hn
    rw [hb] at hn'
    have hr := KBw.ints_in (b := b) (k := (n.toNat : Int)) (by rw [hb]; exact List.mem_of_getElem? hn')
    exact turn i _ t c u h tk own hn' hr.1 hr.2 hoff hJ F₁ N₁
  · intro c u h tk hJ F₁ N₁
    rw [← KBw.ints_length b, hb] at hJ
    exact done c u h tk hJ F₁ N₁

theorem lp_range {r : Addr} {a₀ b₀ c₁ : Int} {t₀ u₀ v₀ : Tok} {n : Nat} (O : σ → Obj) (ps : σ → List (Str × Value)) (stored : List Str) (J : Nat → σ → Prop) (c₀ : σ)
    (hh : A.handled = none) (hr : IsRange s.heap r a₀ b₀ c₁ t₀ u₀ v₀) (hsmall : Builtin.Range.small a₀ b₀ c₁ = true) (hn : Builtin.Range.rangeSize a₀ b₀ c₁ = (n : Int))
    (F : Fr h₀ env.locals s.heap m₀) (N : News h₀ env.locals s.heap ((l, O c₀) :: news)) (hk : ∀ p ∈ ps c₀, m₀ p.1 = some p.2) (hj : J 0 c₀)
    (turn : Hold (∀ (i : Nat) (k : Int) (t : Tok) (c : σ) (u : Str → Option Value) h tk own, i < n → k = a₀ + (i : Int) * c₁ → OwnOff own (l :: news.map (·.1)) → J i c →
      Fr h₀ env.locals h (fun y => if y = x then some (.int k t) else kstB (fun z => if stored.contains z then u z else m₀ z) (ps c) y) → News h₀ env.locals h ((l, O c) :: (news ++ own)) →
      wpAny (model prog w) A (execs body env) (InvPostN h₀ env.locals (LpS (fun c => (l, O c) :: news) ps x stored m₀ (J (i + 1))) own (l :: news.map (·.1)) { s with heap := h, toks := tk } Q) E { s with heap := h, toks := tk }))
    (done : Hold (∀ (c : σ) (u : Str → Option Value) h tk, J n c → Fr h₀ env.locals h (fun y => if y = x then u y else kstB (fun z => if stored.contains z then u z else m₀ z) (ps c) y) → News h₀ env.locals h ((l, O c) :: news) → Q .next { s with heap := h, toks := tk })) :
    wpAny (model prog w) A (pyIter (.ref r)) (fun it s₂ => LoopAtV prog w A h₀ env x body Q E it s₂) E s := by
  refine wpAny_pyIter_range hr hsmall ?_
  have W : Walks prog w A s.heap.objs.size [s.heap.objs.size] [s.heap.objs.size] n (fun i v => i < n ∧ ∃ t, v = .int (a₀ + i * c₁) t)
      (fun i h => IsRangeIter h s.heap.objs.size (a₀ + (i : Nat) * c₁) ((n : Int) - (i : Nat)) c₁) := (Walks.range hh _ a₀ c₁ n).bound
  refine lp_core (fun c => (l, O c) :: news) ps stored J c₀ W ?_ ?_ ?_ ?_ (by show IsRangeIter _ _ _ _ _; rw [hn]; simpa using Heap.get?_push_size _ rfl) (F.push _) (fun p hp => ⟨Heap.get?_push_of_some _ (N p hp).1, (N p hp).2⟩) hk hj ?_ ?_
  · intro hm; exact absurd F.ns.lt ((List.mem_singleton.mp hm) ▸ Nat.lt_irrefl _)
  · intro b' hb'; rw [List.mem_singleton.mp hb']; exact next_is_new F
  · intro p hp hI; exact absurd (Heap.lt_size (N p hp).1) ((List.mem_singleton.mp hI) ▸ Nat.lt_irrefl _)
  · intro p hp hI; exact absurd (Heap.lt_size (N p hp).1) ((List.mem_singleton.mp hI) ▸ Nat.lt_irrefl _)
  · rintro i v c u h tk own hi ⟨_, t, rfl⟩ hoff hJ F₁ N₁
    exact turn i _ t c u h tk own hi rfl hoff hJ F₁ N₁
  · intro c u h tk hJ F₁ N₁
    exact done c u h tk hJ F₁ N₁
theorem lp_bytesG {b : Array UInt8} {tb : Tok} {ks : List Int} (led : σ → List (Addr × Obj)) (ps : σ → List (Str × Value)) (stored : List Str) (J : Nat → σ → Prop) (c₀ : σ)
    (hb : KBw.bInts b = ks) (hh : A.handled = none) (F : Fr h₀ env.locals s.heap m₀) (N : News h₀ env.locals s.heap (led c₀)) (hk : ∀ p ∈ ps c₀, m₀ p.1 = some p.2) (hj : J 0 c₀)
    (turn : Hold (∀ (i : Nat) (k : Int) (t : Tok) (c : σ) (u : Str → Option Value) h tk own, ks[i]? = some k → 0 ≤ k → k < 256 → OwnOff own ((led c₀).map (·.1)) → J i c →
      Fr h₀ env.locals h (fun y => if y = x then some (.int k t) else kstB (fun z => if stored.contains z then u z else m₀ z) (ps c) y) → News h₀ env.locals h (led c ++ own) →
      wpAny (model prog w) A (execs body env) (InvPostN h₀ env.locals (LpS led ps x stored m₀ (J (i + 1))) own ((led c₀).map (·.1)) { s with heap := h, toks := tk } Q) E { s with heap := h, toks := tk }))
    (done : Hold (∀ (c : σ) (u : Str → Option Value) h tk, J ks.length c → Fr h₀ env.locals h (fun y => if y = x then u y else kstB (fun z => if stored.contains z then u z else m₀ z) (ps c) y) → News h₀ env.locals h (led c) → Q .next { s with heap := h, toks := tk })) :
    wpAny (model prog w) A (pyIter (.bytes b tb)) (fun it s₂ => LoopAtV prog w A h₀ env x body Q E it s₂) E s := by
  refine KBw.pyIter_bytes ?_
  refine lp_core led ps stored J c₀ (KBw.walks (prog := prog) (w := w) hh s.heap.objs.size b tb) ?_ ?_ ?_ ?_ ⟨_, Heap.get?_push_size _ rfl, rfl, rfl⟩ (F.push _) (fun p hp => ⟨Heap.get?_push_of_some _ (N p hp).1, (N p hp).2⟩) hk hj ?_ ?_
  · intro hm; exact absurd F.ns.lt ((List.mem_singleton.mp hm) ▸ Nat.lt_irrefl _)
  · intro b' hb'; rw [List.mem_singleton.mp hb']; exact next_is_new F
  · intro p hp hI; exact absurd (Heap.lt_size (N p hp).1) ((List.mem_singleton.mp hI) ▸ Nat.lt_irrefl _)
  · intro p hp hI; exact absurd (Heap.lt_size (N p hp).1) ((List.mem_singleton.mp hI) ▸ Nat.lt_irrefl _)
  · rintro i v c u h tk own hi ⟨n, t, hn, rfl⟩ hoff hJ F₁ N₁
    have hn' := KBw.ints_get hn
    rw [hb] at hn'
    have hr := KBw.ints_in (b := b) (k := (n.toNat : Int)) (by rw [hb]; exact List.mem_of_getElem? hn')
    exact turn i _ t c u h tk own hn' hr.1 hr.2 hoff hJ F₁ N₁
  · intro c u h tk hJ F₁ N₁
    rw [← KBw.ints_length b, hb] at hJ
    exact done c u h tk hJ F₁ N₁

theorem lp_rangeG {r : Addr} {a₀ b₀ c₁ : Int} {t₀ u₀ v₀ : Tok} {n : Nat} (led : σ → List (Addr × Obj)) (ps : σ → List (Str × Value)) (stored : List Str) (J : Nat → σ → Prop) (c₀ : σ)
    (hh : A.handled = none) (hr : IsRange s.heap r a₀ b₀ c₁ t₀ u₀ v₀) (hsmall : Builtin.Range.small a₀ b₀ c₁ = true) (hn : Builtin.Range.rangeSize a₀ b₀ c₁ = (n : Int))
    (F : Fr h₀ env.locals s.heap m₀) (N : News h₀ env.locals s.heap (led c₀)) (hk : ∀ p ∈ ps c₀, m₀ p.1 = some p.2) (hj : J 0 c₀)
    (turn : Hold (∀ (i : Nat) (k : Int) (t : Tok) (c : σ) (u : Str → Option Value) h tk own, i < n → k = a₀ + (i : Int) * c₁ → OwnOff own ((led c₀).map (·.1)) → J i c →
      Fr h₀ env.locals h (fun y => if y = x then some (.int k t) else kstB (fun z => if stored.contains z then u z else m₀ z) (ps c) y) → News h₀ env.locals h (led c ++ own) →
      wpAny (model prog w) A (execs body env) (InvPostN h₀ env.locals (LpS led ps x stored m₀ (J (i + 1))) own ((led c₀).map (·.1)) { s with heap := h, toks := tk } Q) E { s with heap := h, toks := tk }))
    (done : Hold (∀ (c : σ) (u : Str → Option Value) h tk, J n c → Fr h₀ env.locals h (fun y => if y = x then u y else kstB (fun z => if stored.contains z then u z else m₀ z) (ps c) y) → News h₀ env.locals h (led c) → Q .next { s with heap := h, toks := tk })) :
    wpAny (model prog w) A (pyIter (.ref r)) (fun it s₂ => LoopAtV prog w A h₀ env x body Q E it s₂) E s := by
  refine wpAny_pyIter_range hr hsmall ?_
  have W : Walks prog w A s.heap.objs.size [s.heap.objs.size] [s.heap.objs.size] n (fun i v => i < n ∧ ∃ t, v = .int (a₀ + i * c₁) t)
      (fun i h => IsRangeIter h s.heap.objs.size (a₀ + (i : Nat) * c₁) ((n : Int) - (i : Nat)) c₁) := (Walks.range hh _ a₀ c₁ n).bound
  refine lp_core led ps stored J c₀ W ?_ ?_ ?_ ?_ (by show IsRangeIter _ _ _ _ _; rw [hn]; simpa using Heap.get?_push_size _ rfl) (F.push _) (fun p hp => ⟨Heap.get?_push_of_some _ (N p hp).1, (N p hp).2⟩) hk hj ?_ ?_
  · intro hm; exact absurd F.ns.lt ((List.mem_singleton.mp hm) ▸ Nat.lt_irrefl _)
  · intro b' hb'; rw [List.mem_singleton.mp hb']; exact next_is_new F
  · intro p hp hI; exact absurd (Heap.lt_size (N p hp).1) ((List.mem_singleton.mp hI) ▸ Nat.lt_irrefl _)
  · intro p hp hI; exact absurd (Heap.lt_size (N p hp).1) ((List.mem_singleton.mp hI) ▸ Nat.lt_irrefl _)
  · rintro i v c u h tk own hi ⟨_, t, rfl⟩ hoff hJ F₁ N₁
    exact turn i _ t c u h tk own hi rfl hoff hJ F₁ N₁
  · intro c u h tk hJ F₁ N₁
    exact done c u h tk hJ F₁ N₁
end
section
variable {prog : Program} {w : World} {A : Around} {E : Value → Shared → Prop} {s : Shared} {h₀ : Heap} {L D : Addr} {m : Str → Option Value} {news news' : List (Addr × Obj)} {its : List Value} {n : Nat} {v : Value}
theorem append_any {Q : Value → Shared → Prop} (F : Fr h₀ L s.heap m) (N : News h₀ L s.heap news) (U : Upd D (listOf its.toArray n) (listOf (its ++ [v]).toArray (n + 1)) news news') (hz : its.length ≤ 16777216)
    (h : ∀ h', Fr h₀ L h' m → News h₀ L h' news' → Q .none { s with heap := h' }) : wpAny (model prog w) A (call (.builtin "list.append") [.ref D, v]) Q E s := by
  refine append_K F N (its := its.toArray) (n := n) ?_ h ?_
  · rw [show its.toArray.push v = (its ++ [v]).toArray by simp]; exact U
  · rw [List.size_toArray, sizeLine_eq]; exact hz
end
theorem all_ne_of {news : List (Addr × Obj)} {d : Addr} (h : ∀ p ∈ news, p.1 < d) : ∀ p ∈ news, p.1 ≠ d := fun p hp => Nat.ne_of_lt (h p hp)
theorem allLt_mem {d : Addr} : ∀ (l : List (Addr × Obj)), AllLt d l → ∀ p ∈ l, p.1 < d := by
  intro l
  induction l with
  | nil => intro _ p hp; cases hp
  | cons q r ih =>
    intro h p hp
    obtain ⟨h1, h2⟩ := h
    rcases List.mem_cons.mp hp with rfl | hp
    · exact h1
    · exact ih h2 p hp
theorem allc {d : Addr} {q : Addr × Obj} {l : List (Addr × Obj)} (h : q.1 ≠ d) (t : ∀ p ∈ l, p.1 ≠ d) : ∀ p ∈ q :: l, p.1 ≠ d := List.forall_mem_cons.mpr ⟨h, t⟩
theorem all_ne_lt {news : List (Addr × Obj)} {d : Addr} (h : AllLt d news) : ∀ p ∈ news, p.1 ≠ d := all_ne_of (allLt_mem _ h)
theorem layR21 : True := by
  k_with "my k_all" => (first
  | exact List.forall_mem_nil _
  | ((first | with_reducible refine allc ?aZ9 ?bZ9 | refine' List.forall_mem_cons.mpr ⟨?aZ9, ?bZ9⟩); (case aZ9 => k_ne); (case bZ9 => k_all))
  | (refine' List.forall_mem_append.mpr ⟨?aZ9, ?bZ9⟩; (case aZ9 => k_all); (case bZ9 => k_all))
  | exact OwnOff.ne (by assumption) (by k_memK)
  | exact all_ne_of (by assumption)
  | exact all_ne_lt (by assumption)
  | exact all_ne_lt (And.right (by assumption))
  | exact all_ne_lt (And.right (And.right (by assumption))))
  k_with "my call builtin:list.append" => ((k_here; k_dflt (refine' append_any (its := _) ?k1Z9 ?k2Z9 ?k3Z9 ?zZ9 ?_; (case k1Z9 => k_asm); (case k2Z9 => k_asm); (case k3Z9 => k_upd); (case zZ9 => omega); k_whole); intro h'q F'q N'q; (try k_sweep)))
  exact True.intro
section
variable {prog : Program} {w : World} {A : Around} {E : Value → Shared → Prop} {Q : Flow → Shared → Prop} {s : Shared} {env : Env} {h₀ : Heap} {L l : Addr} {σ : Type} {news : List (Addr × Obj)}
theorem lp_while {test : Expr} {body : List Stmt} {pos : Pos} {m₀ : Str → Option Value} (O : σ → Obj) (ps : σ → List (Str × Value)) (stored : List Str) (P : σ → Prop) (μ : σ → Nat) (c₀ : σ)
    (F : Fr h₀ L s.heap m₀) (N : News h₀ L s.heap ((l, O c₀) :: news)) (hk : ∀ p ∈ ps c₀, m₀ p.1 = some p.2) (hp : P c₀) (hE : PassesOwn (model prog w) A env E)
    (turn : Hold (∀ (c : σ) (u : Str → Option Value) h tk, P c → Fr h₀ L h (kstB (fun z => if stored.contains z then u z else m₀ z) (ps c)) → News h₀ L h ((l, O c) :: news) →
      wpAny (model prog w) A (isTrue test env (eval test env)) (fun b s₂ =>
        if b = true then wpAny (model prog w) A (execs body env) (KswPost h₀ L s (fun c => (l, O c) :: news) ps (fun _ => True) stored m₀ P μ Q c) E s₂ else Q .next s₂) E { s with heap := h, toks := tk })) :
    wpAny (model prog w) A (exec (.While test body [] pos) env) Q E s :=
  ksw_while (fun c => (l, O c) :: news) ps (fun _ => True) stored P μ c₀ F N trivial hk hp (fun c u h tk _ hP F' N' => turn c u h tk hP F' N') hE
theorem lp_whileG {test : Expr} {body : List Stmt} {pos : Pos} {m₀ : Str → Option Value} (led : σ → List (Addr × Obj)) (ps : σ → List (Str × Value)) (stored : List Str) (P : σ → Prop) (μ : σ → Nat) (c₀ : σ)
    (F : Fr h₀ L s.heap m₀) (N : News h₀ L s.heap (led c₀)) (hk : ∀ p ∈ ps c₀, m₀ p.1 = some p.2) (hp : P c₀) (hE : PassesOwn (model prog w) A env E)
    (turn : Hold (∀ (c : σ) (u : Str → Option Value) h tk, P c → Fr h₀ L h (kstB (fun z => if stored.contains z then u z else m₀ z) (ps c)) → News h₀ L h (led c) →
      wpAny (model prog w) A (isTrue test env (eval test env)) (fun b s₂ =>
        if b = true then wpAny (model prog w) A (execs body env) (KswPost h₀ L s led ps (fun _ => True) stored m₀ P μ Q c) E s₂ else Q .next s₂) E { s with heap := h, toks := tk })) :
    wpAny (model prog w) A (exec (.While test body [] pos) env) Q E s :=
  ksw_while led ps (fun _ => True) stored P μ c₀ F N trivial hk hp (fun c u h tk _ hP F' N' => turn c u h tk hP F' N') hE
end
theorem layR22 : True := by
  k_with "my InvEndN" => ((first | (exfalso; law_purse 40000 => omega) | (k_dflt (refine' (id : Hold _ → _) ?_))))
  k_with "my InvEnd" => ((first | (exfalso; law_purse 40000 => omega) | (k_dflt (refine' (id : Hold _ → _) ?_))))
  k_with "my KswEnd" => ((first | (exfalso; law_purse 40000 => omega) | (k_dflt (refine' (id : Hold _ → _) ?_))))
  k_with "my omega" => ((k_whole; first | with_reducible assumption | decide | (with_reducible refine' rm0 ?h9Z9; (case h9Z9 => with_reducible assumption)) | (with_reducible refine' rm2 ?h9Z9 ?e9Z9; (case h9Z9 => with_reducible assumption); (case e9Z9 => k_dflt (exact Nat.le_of_ble_eq_true rfl))) | (with_reducible refine' rm1 ?h9Z9 ?e9Z9; (case h9Z9 => with_reducible assumption); (case e9Z9 => k_dflt (exact Nat.le_of_ble_eq_true rfl))) | (with_reducible refine' Nat.le_trans ?h9Z9 ?e9Z9; (case h9Z9 => with_reducible assumption); (case e9Z9 => k_dflt (exact Nat.le_of_ble_eq_true rfl))) | (with_reducible refine' Nat.le_trans (Nat.le_of_eq ?h9Z9) ?e9Z9; (case h9Z9 => with_reducible assumption); (case e9Z9 => k_dflt (exact Nat.le_of_ble_eq_true rfl))) | (with_reducible refine' Int.not_lt.mpr ?h9Z9; (case h9Z9 => with_reducible assumption)) | (with_reducible refine' Nat.succ_le_succ ?h9Z9; (case h9Z9 => with_reducible assumption)) | (with_reducible refine' Nat.le_succ_of_le ?h9Z9; (case h9Z9 => with_reducible assumption)) | (with_reducible refine' Int.le_trans ?h9Z9 ?e9Z9; (case h9Z9 => with_reducible assumption); (case e9Z9 => k_dflt (exact of_decide_eq_true rfl))) | (with_reducible refine' Int.le_trans ?e9Z9 ?h9Z9; (case h9Z9 => with_reducible assumption); (case e9Z9 => k_dflt (exact of_decide_eq_true rfl))) | (with_reducible refine' Int.le_trans ?h9Z9 ?e9Z9; (case h9Z9 => with_reducible assumption); (case e9Z9 => decide)) | (with_reducible refine' Int.le_trans (And.left ?h9Z9) ?e9Z9; (case h9Z9 => with_reducible assumption); (case e9Z9 => decide)) | (with_reducible refine' Int.le_trans (And.right ?h9Z9) ?e9Z9; (case h9Z9 => with_reducible assumption); (case e9Z9 => decide)) | (with_reducible refine' Int.le_trans ?e9Z9 ?h9Z9; (case h9Z9 => with_reducible assumption); (case e9Z9 => decide)) | (with_reducible refine' Int.le_trans ?e9Z9 (And.left ?h9Z9); (case h9Z9 => with_reducible assumption); (case e9Z9 => decide)) | (with_reducible refine' Int.le_trans ?e9Z9 (And.right ?h9Z9); (case h9Z9 => with_reducible assumption); (case e9Z9 => decide)) | (with_reducible refine' Int.lt_of_le_of_lt ?h9Z9 ?e9Z9; (case h9Z9 => with_reducible assumption); (case e9Z9 => decide)) | (with_reducible refine' Int.lt_of_le_of_lt (And.left ?h9Z9) ?e9Z9; (case h9Z9 => with_reducible assumption); (case e9Z9 => decide)) | (with_reducible refine' Int.lt_of_le_of_lt (And.right ?h9Z9) ?e9Z9; (case h9Z9 => with_reducible assumption); (case e9Z9 => decide)) | (with_reducible refine' Int.lt_of_lt_of_le ?e9Z9 ?h9Z9; (case h9Z9 => with_reducible assumption); (case e9Z9 => decide)) | (with_reducible refine' Int.lt_of_lt_of_le ?e9Z9 (And.left ?h9Z9); (case h9Z9 => with_reducible assumption); (case e9Z9 => decide)) | (with_reducible refine' Int.lt_of_lt_of_le ?e9Z9 (And.right ?h9Z9); (case h9Z9 => with_reducible assumption); (case e9Z9 => decide)) | (with_reducible refine' Nat.lt_of_le_of_lt ?h9Z9 ?e9Z9; (case h9Z9 => with_reducible assumption); (case e9Z9 => decide)) | (with_reducible refine' Nat.lt_of_le_of_lt (And.left ?h9Z9) ?e9Z9; (case h9Z9 => with_reducible assumption); (case e9Z9 => decide)) | (with_reducible refine' Nat.lt_of_le_of_lt (And.right ?h9Z9) ?e9Z9; (case h9Z9 => with_reducible assumption); (case e9Z9 => decide)) | (with_reducible refine' Nat.le_trans ?h9Z9 ?e9Z9; (case h9Z9 => with_reducible assumption); (case e9Z9 => decide)) | (with_reducible refine' Nat.le_trans (And.left ?h9Z9) ?e9Z9; (case h9Z9 => with_reducible assumption); (case e9Z9 => decide)) | (with_reducible refine' Nat.le_trans (And.right ?h9Z9) ?e9Z9; (case h9Z9 => with_reducible assumption); (case e9Z9 => decide)) | (with_reducible refine' lle ?h9Z9; (case h9Z9 => with_reducible assumption)) | (with_reducible refine' lle (And.left ?h9Z9); (case h9Z9 => with_reducible assumption)) | (with_reducible refine' lle (And.left (And.right ?h9Z9)); (case h9Z9 => with_reducible assumption)) | (with_reducible refine' lle (And.left (And.right (And.right ?h9Z9))); (case h9Z9 => with_reducible assumption)) | (with_reducible refine' lle (And.left (And.right (And.right (And.right ?h9Z9)))); (case h9Z9 => with_reducible assumption)) | (with_reducible refine' lle (And.left (And.right (And.right (And.right (And.right ?h9Z9))))); (case h9Z9 => with_reducible assumption)) | (with_reducible refine' lle (And.left (And.right (And.right (And.right (And.right (And.right ?h9Z9)))))); (case h9Z9 => with_reducible assumption)) | (with_reducible refine' lle (And.left (And.right (And.right (And.right (And.right (And.right (And.right ?h9Z9))))))); (case h9Z9 => with_reducible assumption)) | (with_reducible refine' lle (And.left (And.right (And.right (And.right (And.right (And.right (And.right (And.right ?h9Z9)))))))); (case h9Z9 => with_reducible assumption)) | (with_reducible refine' lle (And.left (And.right (And.right (And.right (And.right (And.right (And.right (And.right (And.right ?h9Z9))))))))); (case h9Z9 => with_reducible assumption)) | ((fail_if_success (have h9q := lawHere)); (repeat (rename (@Ne Nat _ _) ∧ _ => hx9; clear hx9)); (repeat (rename (@LT.lt Nat _ _ _) ∧ _ => hx9; clear hx9)); lia) | ((have h9q := lawHere); clear h9q; (repeat (rename (@Ne Nat _ _) ∧ _ => hx9; clear hx9)); (repeat (rename (@LT.lt Nat _ _ _) ∧ _ => hx9; clear hx9)); omega +splitDisjunctions)))
  k_with "my k_ne" => ((refine neN ?_; (try dsimp only); first | (with_reducible assumption) | with_reducible exact ne1 | with_reducible exact Ne.symm ne1 | with_reducible exact ne2 | with_reducible exact Ne.symm ne2 | with_reducible exact ne3 | with_reducible exact Ne.symm ne3 | (with_reducible refine' Ne.symm ?h9Z9; (case h9Z9 => with_reducible assumption)) | (with_reducible refine' Nat.ne_of_lt ?h9Z9; (case h9Z9 => with_reducible assumption)) | (with_reducible refine' Nat.ne_of_gt ?h9Z9; (case h9Z9 => with_reducible assumption)) | (with_reducible refine' And.left ?h9Z9; (case h9Z9 => with_reducible assumption)) | (with_reducible refine' Ne.symm (And.left ?h9Z9); (case h9Z9 => with_reducible assumption)) | (with_reducible refine' Nat.ne_of_lt (And.left ?h9Z9); (case h9Z9 => with_reducible assumption)) | (with_reducible refine' Nat.ne_of_gt (And.left ?h9Z9); (case h9Z9 => with_reducible assumption)) | (with_reducible refine' And.left (And.right ?h9Z9); (case h9Z9 => with_reducible assumption)) | (with_reducible refine' Ne.symm (And.left (And.right ?h9Z9)); (case h9Z9 => with_reducible assumption)) | (with_reducible refine' Nat.ne_of_lt (And.left (And.right ?h9Z9)); (case h9Z9 => with_reducible assumption)) | (with_reducible refine' Nat.ne_of_gt (And.left (And.right ?h9Z9)); (case h9Z9 => with_reducible assumption)) | (with_reducible refine' And.left (And.right (And.right ?h9Z9)); (case h9Z9 => with_reducible assumption)) | (with_reducible refine' Ne.symm (And.left (And.right (And.right ?h9Z9))); (case h9Z9 => with_reducible assumption)) | (with_reducible refine' Nat.ne_of_lt (And.left (And.right (And.right ?h9Z9))); (case h9Z9 => with_reducible assumption)) | (with_reducible refine' Nat.ne_of_gt (And.left (And.right (And.right ?h9Z9))); (case h9Z9 => with_reducible assumption)) | (with_reducible refine' And.left (And.right (And.right (And.right ?h9Z9))); (case h9Z9 => with_reducible assumption)) | (with_reducible refine' Ne.symm (And.left (And.right (And.right (And.right ?h9Z9)))); (case h9Z9 => with_reducible assumption)) | (with_reducible refine' Nat.ne_of_lt (And.left (And.right (And.right (And.right ?h9Z9)))); (case h9Z9 => with_reducible assumption)) | (with_reducible refine' Nat.ne_of_gt (And.left (And.right (And.right (And.right ?h9Z9)))); (case h9Z9 => with_reducible assumption)) | (with_reducible refine' And.left (And.right (And.right (And.right (And.right ?h9Z9)))); (case h9Z9 => with_reducible assumption)) | (with_reducible refine' Ne.symm (And.left (And.right (And.right (And.right (And.right ?h9Z9))))); (case h9Z9 => with_reducible assumption)) | (with_reducible refine' Nat.ne_of_lt (And.left (And.right (And.right (And.right (And.right ?h9Z9))))); (case h9Z9 => with_reducible assumption)) | (with_reducible refine' Nat.ne_of_gt (And.left (And.right (And.right (And.right (And.right ?h9Z9))))); (case h9Z9 => with_reducible assumption)) | (with_reducible refine' And.left (And.right (And.right (And.right (And.right (And.right ?h9Z9))))); (case h9Z9 => with_reducible assumption)) | (with_reducible refine' Ne.symm (And.left (And.right (And.right (And.right (And.right (And.right ?h9Z9)))))); (case h9Z9 => with_reducible assumption)) | (with_reducible refine' Nat.ne_of_lt (And.left (And.right (And.right (And.right (And.right (And.right ?h9Z9)))))); (case h9Z9 => with_reducible assumption)) | (with_reducible refine' Nat.ne_of_gt (And.left (And.right (And.right (And.right (And.right (And.right ?h9Z9)))))); (case h9Z9 => with_reducible assumption)) | (with_reducible refine' And.left (And.right (And.right (And.right (And.right (And.right (And.right ?h9Z9)))))); (case h9Z9 => with_reducible assumption)) | (with_reducible refine' Ne.symm (And.left (And.right (And.right (And.right (And.right (And.right (And.right ?h9Z9))))))); (case h9Z9 => with_reducible assumption)) | (with_reducible refine' Nat.ne_of_lt (And.left (And.right (And.right (And.right (And.right (And.right (And.right ?h9Z9))))))); (case h9Z9 => with_reducible assumption)) | (with_reducible refine' Nat.ne_of_gt (And.left (And.right (And.right (And.right (And.right (And.right (And.right ?h9Z9))))))); (case h9Z9 => with_reducible assumption)) | (with_reducible refine' And.left (And.right (And.right (And.right (And.right (And.right (And.right (And.right ?h9Z9))))))); (case h9Z9 => with_reducible assumption)) | (with_reducible refine' Ne.symm (And.left (And.right (And.right (And.right (And.right (And.right (And.right (And.right ?h9Z9)))))))); (case h9Z9 => with_reducible assumption)) | (with_reducible refine' Nat.ne_of_lt (And.left (And.right (And.right (And.right (And.right (And.right (And.right (And.right ?h9Z9)))))))); (case h9Z9 => with_reducible assumption)) | (with_reducible refine' Nat.ne_of_gt (And.left (And.right (And.right (And.right (And.right (And.right (And.right (And.right ?h9Z9)))))))); (case h9Z9 => with_reducible assumption)) | (with_reducible refine' And.left (And.right (And.right (And.right (And.right (And.right (And.right (And.right (And.right ?h9Z9)))))))); (case h9Z9 => with_reducible assumption)) | (with_reducible refine' Ne.symm (And.left (And.right (And.right (And.right (And.right (And.right (And.right (And.right (And.right ?h9Z9))))))))); (case h9Z9 => with_reducible assumption)) | (with_reducible refine' Nat.ne_of_lt (And.left (And.right (And.right (And.right (And.right (And.right (And.right (And.right (And.right ?h9Z9))))))))); (case h9Z9 => with_reducible assumption)) | (with_reducible refine' Nat.ne_of_gt (And.left (And.right (And.right (And.right (And.right (And.right (And.right (And.right (And.right ?h9Z9))))))))); (case h9Z9 => with_reducible assumption)) | (with_reducible refine' And.left (And.right (And.right (And.right (And.right (And.right (And.right (And.right (And.right (And.right ?h9Z9))))))))); (case h9Z9 => with_reducible assumption)) | (with_reducible refine' Ne.symm (And.left (And.right (And.right (And.right (And.right (And.right (And.right (And.right (And.right (And.right ?h9Z9)))))))))); (case h9Z9 => with_reducible assumption)) | (with_reducible refine' Nat.ne_of_lt (And.left (And.right (And.right (And.right (And.right (And.right (And.right (And.right (And.right (And.right ?h9Z9)))))))))); (case h9Z9 => with_reducible assumption)) | (with_reducible refine' Nat.ne_of_gt (And.left (And.right (And.right (And.right (And.right (And.right (And.right (And.right (And.right (And.right ?h9Z9)))))))))); (case h9Z9 => with_reducible assumption)) | (with_reducible refine' And.right ?h9Z9; (case h9Z9 => with_reducible assumption)) | (with_reducible refine' Ne.symm (And.right ?h9Z9); (case h9Z9 => with_reducible assumption)) | (with_reducible refine' Nat.ne_of_lt (And.right ?h9Z9); (case h9Z9 => with_reducible assumption)) | (with_reducible refine' Nat.ne_of_gt (And.right ?h9Z9); (case h9Z9 => with_reducible assumption)) | (with_reducible refine' And.right (And.right ?h9Z9); (case h9Z9 => with_reducible assumption)) | (with_reducible refine' Ne.symm (And.right (And.right ?h9Z9)); (case h9Z9 => with_reducible assumption)) | (with_reducible refine' Nat.ne_of_lt (And.right (And.right ?h9Z9)); (case h9Z9 => with_reducible assumption)) | (with_reducible refine' Nat.ne_of_gt (And.right (And.right ?h9Z9)); (case h9Z9 => with_reducible assumption)) | (with_reducible refine' And.right (And.right (And.right ?h9Z9)); (case h9Z9 => with_reducible assumption)) | (with_reducible refine' Ne.symm (And.right (And.right (And.right ?h9Z9))); (case h9Z9 => with_reducible assumption)) | (with_reducible refine' Nat.ne_of_lt (And.right (And.right (And.right ?h9Z9))); (case h9Z9 => with_reducible assumption)) | (with_reducible refine' Nat.ne_of_gt (And.right (And.right (And.right ?h9Z9))); (case h9Z9 => with_reducible assumption)) | (with_reducible refine' And.right (And.right (And.right (And.right ?h9Z9))); (case h9Z9 => with_reducible assumption)) | (with_reducible refine' Ne.symm (And.right (And.right (And.right (And.right ?h9Z9)))); (case h9Z9 => with_reducible assumption)) | (with_reducible refine' Nat.ne_of_lt (And.right (And.right (And.right (And.right ?h9Z9)))); (case h9Z9 => with_reducible assumption)) | (with_reducible refine' Nat.ne_of_gt (And.right (And.right (And.right (And.right ?h9Z9)))); (case h9Z9 => with_reducible assumption)) | (with_reducible refine' And.right (And.right (And.right (And.right (And.right ?h9Z9)))); (case h9Z9 => with_reducible assumption)) | (with_reducible refine' Ne.symm (And.right (And.right (And.right (And.right (And.right ?h9Z9))))); (case h9Z9 => with_reducible assumption)) | (with_reducible refine' Nat.ne_of_lt (And.right (And.right (And.right (And.right (And.right ?h9Z9))))); (case h9Z9 => with_reducible assumption)) | (with_reducible refine' Nat.ne_of_gt (And.right (And.right (And.right (And.right (And.right ?h9Z9))))); (case h9Z9 => with_reducible assumption)) | (with_reducible refine' And.right (And.right (And.right (And.right (And.right (And.right ?h9Z9))))); (case h9Z9 => with_reducible assumption)) | (with_reducible refine' Ne.symm (And.right (And.right (And.right (And.right (And.right (And.right ?h9Z9)))))); (case h9Z9 => with_reducible assumption)) | (with_reducible refine' Nat.ne_of_lt (And.right (And.right (And.right (And.right (And.right (And.right ?h9Z9)))))); (case h9Z9 => with_reducible assumption)) | (with_reducible refine' Nat.ne_of_gt (And.right (And.right (And.right (And.right (And.right (And.right ?h9Z9)))))); (case h9Z9 => with_reducible assumption)) | (with_reducible refine' And.right (And.right (And.right (And.right (And.right (And.right (And.right ?h9Z9)))))); (case h9Z9 => with_reducible assumption)) | (with_reducible refine' Ne.symm (And.right (And.right (And.right (And.right (And.right (And.right (And.right ?h9Z9))))))); (case h9Z9 => with_reducible assumption)) | (with_reducible refine' Nat.ne_of_lt (And.right (And.right (And.right (And.right (And.right (And.right (And.right ?h9Z9))))))); (case h9Z9 => with_reducible assumption)) | (with_reducible refine' Nat.ne_of_gt (And.right (And.right (And.right (And.right (And.right (And.right (And.right ?h9Z9))))))); (case h9Z9 => with_reducible assumption)) | (with_reducible refine' And.right (And.right (And.right (And.right (And.right (And.right (And.right (And.right ?h9Z9))))))); (case h9Z9 => with_reducible assumption)) | (with_reducible refine' Ne.symm (And.right (And.right (And.right (And.right (And.right (And.right (And.right (And.right ?h9Z9)))))))); (case h9Z9 => with_reducible assumption)) | (with_reducible refine' Nat.ne_of_lt (And.right (And.right (And.right (And.right (And.right (And.right (And.right (And.right ?h9Z9)))))))); (case h9Z9 => with_reducible assumption)) | (with_reducible refine' Nat.ne_of_gt (And.right (And.right (And.right (And.right (And.right (And.right (And.right (And.right ?h9Z9)))))))); (case h9Z9 => with_reducible assumption)) | (with_reducible refine' And.right (And.right (And.right (And.right (And.right (And.right (And.right (And.right (And.right ?h9Z9)))))))); (case h9Z9 => with_reducible assumption)) | (with_reducible refine' Ne.symm (And.right (And.right (And.right (And.right (And.right (And.right (And.right (And.right (And.right ?h9Z9))))))))); (case h9Z9 => with_reducible assumption)) | (with_reducible refine' Nat.ne_of_lt (And.right (And.right (And.right (And.right (And.right (And.right (And.right (And.right (And.right ?h9Z9))))))))); (case h9Z9 => with_reducible assumption)) | (with_reducible refine' Nat.ne_of_gt (And.right (And.right (And.right (And.right (And.right (And.right (And.right (And.right (And.right ?h9Z9))))))))); (case h9Z9 => with_reducible assumption)) | (with_reducible refine' And.left (And.left ?h9Z9); (case h9Z9 => with_reducible assumption)) | (with_reducible refine' Ne.symm (And.left (And.left ?h9Z9)); (case h9Z9 => with_reducible assumption)) | (with_reducible refine' And.left (And.right (And.left ?h9Z9)); (case h9Z9 => with_reducible assumption)) | (with_reducible refine' Ne.symm (And.left (And.right (And.left ?h9Z9))); (case h9Z9 => with_reducible assumption)) | (with_reducible refine' And.right (And.right (And.left ?h9Z9)); (case h9Z9 => with_reducible assumption)) | (with_reducible refine' Ne.symm (And.right (And.right (And.left ?h9Z9))); (case h9Z9 => with_reducible assumption)) | (with_reducible refine' And.left (And.left (And.right ?h9Z9)); (case h9Z9 => with_reducible assumption)) | (with_reducible refine' Ne.symm (And.left (And.left (And.right ?h9Z9))); (case h9Z9 => with_reducible assumption)) | (with_reducible refine' And.left (And.right (And.left (And.right ?h9Z9))); (case h9Z9 => with_reducible assumption)) | (with_reducible refine' Ne.symm (And.left (And.right (And.left (And.right ?h9Z9)))); (case h9Z9 => with_reducible assumption)) | (with_reducible refine' And.right (And.right (And.left (And.right ?h9Z9))); (case h9Z9 => with_reducible assumption)) | (with_reducible refine' Ne.symm (And.right (And.right (And.left (And.right ?h9Z9)))); (case h9Z9 => with_reducible assumption)) | (with_reducible refine' And.left (And.left (And.right (And.right ?h9Z9))); (case h9Z9 => with_reducible assumption)) | (with_reducible refine' Ne.symm (And.left (And.left (And.right (And.right ?h9Z9)))); (case h9Z9 => with_reducible assumption)) | (with_reducible refine' And.left (And.right (And.left (And.right (And.right ?h9Z9)))); (case h9Z9 => with_reducible assumption)) | (with_reducible refine' Ne.symm (And.left (And.right (And.left (And.right (And.right ?h9Z9))))); (case h9Z9 => with_reducible assumption)) | (with_reducible refine' And.right (And.right (And.left (And.right (And.right ?h9Z9)))); (case h9Z9 => with_reducible assumption)) | (with_reducible refine' Ne.symm (And.right (And.right (And.left (And.right (And.right ?h9Z9))))); (case h9Z9 => with_reducible assumption)) | (with_reducible refine' And.left (And.left (And.right (And.right (And.right ?h9Z9)))); (case h9Z9 => with_reducible assumption)) | (with_reducible refine' Ne.symm (And.left (And.left (And.right (And.right (And.right ?h9Z9))))); (case h9Z9 => with_reducible assumption)) | (with_reducible refine' And.left (And.right (And.left (And.right (And.right (And.right ?h9Z9))))); (case h9Z9 => with_reducible assumption)) | (with_reducible refine' Ne.symm (And.left (And.right (And.left (And.right (And.right (And.right ?h9Z9)))))); (case h9Z9 => with_reducible assumption)) | (with_reducible refine' And.right (And.right (And.left (And.right (And.right (And.right ?h9Z9))))); (case h9Z9 => with_reducible assumption)) | (with_reducible refine' Ne.symm (And.right (And.right (And.left (And.right (And.right (And.right ?h9Z9)))))); (case h9Z9 => with_reducible assumption)) | (with_reducible refine' And.left (And.left (And.right (And.right (And.right (And.right ?h9Z9))))); (case h9Z9 => with_reducible assumption)) | (with_reducible refine' Ne.symm (And.left (And.left (And.right (And.right (And.right (And.right ?h9Z9)))))); (case h9Z9 => with_reducible assumption)) | (with_reducible refine' And.left (And.right (And.left (And.right (And.right (And.right (And.right ?h9Z9)))))); (case h9Z9 => with_reducible assumption)) | (with_reducible refine' Ne.symm (And.left (And.right (And.left (And.right (And.right (And.right (And.right ?h9Z9))))))); (case h9Z9 => with_reducible assumption)) | (with_reducible refine' And.right (And.right (And.left (And.right (And.right (And.right (And.right ?h9Z9)))))); (case h9Z9 => with_reducible assumption)) | (with_reducible refine' Ne.symm (And.right (And.right (And.left (And.right (And.right (And.right (And.right ?h9Z9))))))); (case h9Z9 => with_reducible assumption)) | (with_reducible refine' And.left (And.left (And.right (And.right (And.right (And.right (And.right ?h9Z9)))))); (case h9Z9 => with_reducible assumption)) | (with_reducible refine' Ne.symm (And.left (And.left (And.right (And.right (And.right (And.right (And.right ?h9Z9))))))); (case h9Z9 => with_reducible assumption)) | (with_reducible refine' And.left (And.right (And.left (And.right (And.right (And.right (And.right (And.right ?h9Z9))))))); (case h9Z9 => with_reducible assumption)) | (with_reducible refine' Ne.symm (And.left (And.right (And.left (And.right (And.right (And.right (And.right (And.right ?h9Z9)))))))); (case h9Z9 => with_reducible assumption)) | (with_reducible refine' And.right (And.right (And.left (And.right (And.right (And.right (And.right (And.right ?h9Z9))))))); (case h9Z9 => with_reducible assumption)) | (with_reducible refine' Ne.symm (And.right (And.right (And.left (And.right (And.right (And.right (And.right (And.right ?h9Z9)))))))); (case h9Z9 => with_reducible assumption)) | (with_reducible refine' And.left (And.left (And.right (And.right (And.right (And.right (And.right (And.right ?h9Z9))))))); (case h9Z9 => with_reducible assumption)) | (with_reducible refine' Ne.symm (And.left (And.left (And.right (And.right (And.right (And.right (And.right (And.right ?h9Z9)))))))); (case h9Z9 => with_reducible assumption)) | (with_reducible refine' And.left (And.right (And.left (And.right (And.right (And.right (And.right (And.right (And.right ?h9Z9)))))))); (case h9Z9 => with_reducible assumption)) | (with_reducible refine' Ne.symm (And.left (And.right (And.left (And.right (And.right (And.right (And.right (And.right (And.right ?h9Z9))))))))); (case h9Z9 => with_reducible assumption)) | (with_reducible refine' And.right (And.right (And.left (And.right (And.right (And.right (And.right (And.right (And.right ?h9Z9)))))))); (case h9Z9 => with_reducible assumption)) | (with_reducible refine' Ne.symm (And.right (And.right (And.left (And.right (And.right (And.right (And.right (And.right (And.right ?h9Z9))))))))); (case h9Z9 => with_reducible assumption)) | (with_reducible refine' And.left (And.left (And.right (And.right (And.right (And.right (And.right (And.right (And.right ?h9Z9)))))))); (case h9Z9 => with_reducible assumption)) | (with_reducible refine' Ne.symm (And.left (And.left (And.right (And.right (And.right (And.right (And.right (And.right (And.right ?h9Z9))))))))); (case h9Z9 => with_reducible assumption)) | (with_reducible refine' And.left (And.right (And.left (And.right (And.right (And.right (And.right (And.right (And.right (And.right ?h9Z9))))))))); (case h9Z9 => with_reducible assumption)) | (with_reducible refine' Ne.symm (And.left (And.right (And.left (And.right (And.right (And.right (And.right (And.right (And.right (And.right ?h9Z9)))))))))); (case h9Z9 => with_reducible assumption)) | (with_reducible refine' And.right (And.right (And.left (And.right (And.right (And.right (And.right (And.right (And.right (And.right ?h9Z9))))))))); (case h9Z9 => with_reducible assumption)) | (with_reducible refine' Ne.symm (And.right (And.right (And.left (And.right (And.right (And.right (And.right (And.right (And.right (And.right ?h9Z9)))))))))); (case h9Z9 => with_reducible assumption)) | (with_reducible refine' And.left (And.left (And.right (And.right (And.right (And.right (And.right (And.right (And.right (And.right ?h9Z9))))))))); (case h9Z9 => with_reducible assumption)) | (with_reducible refine' Ne.symm (And.left (And.left (And.right (And.right (And.right (And.right (And.right (And.right (And.right (And.right ?h9Z9)))))))))); (case h9Z9 => with_reducible assumption)) | (with_reducible refine' And.left (And.right (And.left (And.right (And.right (And.right (And.right (And.right (And.right (And.right (And.right ?h9Z9)))))))))); (case h9Z9 => with_reducible assumption)) | (with_reducible refine' Ne.symm (And.left (And.right (And.left (And.right (And.right (And.right (And.right (And.right (And.right (And.right (And.right ?h9Z9))))))))))); (case h9Z9 => with_reducible assumption)) | (with_reducible refine' And.right (And.right (And.left (And.right (And.right (And.right (And.right (And.right (And.right (And.right (And.right ?h9Z9)))))))))); (case h9Z9 => with_reducible assumption)) | (with_reducible refine' Ne.symm (And.right (And.right (And.left (And.right (And.right (And.right (And.right (And.right (And.right (And.right (And.right ?h9Z9))))))))))); (case h9Z9 => with_reducible assumption)) | omega))
  k_with "my execs cons" => ((k_here; dsimp only))
  k_with "my execs cons" => ((k_here; (fail_if_success (fail_if_success k_fold)); (with_reducible show wpAny _ _ _ (InvPostN _ _ _ _ _ _ _) _ _); k_fold))
  k_with "my execs cons" => ((k_here; (fail_if_success (fail_if_success k_fold)); (with_reducible show wpAny _ _ _ (KswPost _ _ _ _ _ _ _ _ _ _ _ _) _ _); k_fold))
  k_with "my execs nil" => ((k_here; dsimp only))
  k_with "my storeName" => ((k_here; dsimp only))
  k_with "my RangeRest" => ((k_here; dsimp only))
  k_with "my eval Call" => ((k_here; dsimp only))
  k_with "my eval Name" => ((k_here; dsimp only))
  k_with "my eval BinOp" => ((k_here; dsimp only))
  k_with "my assign" => ((k_here; dsimp only))
  k_with "my ite" => ((k_here; dsimp only))
  k_with "my spliced" => ((k_here; dsimp only))
  exact True.intro

def hexw (c : Int) : Int := if 48 ≤ c ∧ c ≤ 57 then c - 48 else if 65 ≤ c ∧ c ≤ 70 then c - 55 else if 97 ≤ c ∧ c ≤ 102 then c - 87 else -1
theorem hex_worth_at (w : World) (news : List (Addr × Obj)) (c : Int) (t : Tok) : CG w 1 224 [.int c t] news (RI news (hexw c)) := by
  unfold hexw
  w_top off
  intro mean mg mb dp un gd cn cs a ccd cl outer A₀ base h₀ L m s Q E B F X N T hk hd hu hret
  refine wpAny_call ?_
  k_dflt cell_enter
  (try (refine let_AE ?_; intro A9q e9q)); (try ((with_reducible rename Fr _ _ _ _ => F9q); refine let_m F9q ?_; clear F9q; intro m9q F'))
  (try k_fold)
  k_steps
  all_goals (
    refine' gInt (Q := Q) hret ?_ ?cF ?cN
    (case cF => k_asm)
    (case cN => first | k_asm | (refine' cb_drop ?cbN ?cbS; (case cbN => assumption); (case cbS => kcj_all)))
    simp only [decide_eq_true_eq, decide_eq_false_iff_not] at *
    repeat (first | rw [if_pos ⟨by assumption, by assumption⟩] | rw [if_neg (fun h => absurd h.1 (by assumption))] | rw [if_neg (fun h => absurd h.2 (by assumption))] | rw [if_neg (by omega)]))
def hx (n : Int) : Int := [48, 49, 50, 51, 52, 53, 54, 55, 56, 57, 65, 66, 67, 68, 69, 70].getD n.toNat 0
theorem hx_eq {n : Int} (h0 : 0 ≤ n) (h1 : n < 16) : (([48, 49, 50, 51, 52, 53, 54, 55, 56, 57, 65, 66, 67, 68, 69, 70] : List UInt8).getD n.toNat 0).toNat = hx n := by
  obtain ⟨k, rfl⟩ := Int.eq_ofNat_of_zero_le h0
  have h : ∀ k : Fin 16, ((([48, 49, 50, 51, 52, 53, 54, 55, 56, 57, 65, 66, 67, 68, 69, 70] : List UInt8).getD (k.val : Int).toNat 0).toNat : Int) = hx (k.val : Int) := by decide +kernel
  exact h ⟨k, Int.ofNat_lt.mp h1⟩
theorem hx_byte {n : Int} (h0 : 0 ≤ n) (h1 : n < 16) : 48 ≤ hx n ∧ hx n < 71 := by
  obtain ⟨k, rfl⟩ := Int.eq_ofNat_of_zero_le h0
  have h : ∀ k : Fin 16, 48 ≤ hx (k.val : Int) ∧ hx (k.val : Int) < 71 := by decide +kernel
  exact h ⟨k, Int.ofNat_lt.mp h1⟩
theorem quoted_code_at (w : World) (news : List (Addr × Obj)) (c : Int) (t : Tok) (h0 : 0 ≤ c) (h1 : c < 256) : CG w 1 217 [.int c t] news (RB news [61, hx (c / 16), hx (c % 16)]) := by
  have e1 : Int.fdiv c 16 = c / 16 := Int.fdiv_eq_ediv_of_nonneg _ (by decide)
  have e2 : Int.fmod c 16 = c % 16 := Int.fmod_eq_emod_of_nonneg _ (by decide)
  w_top off
  intro mean mg mb dp un gd cn cs a ccd cl outer A₀ base h₀ L m s Q E B F X N T hk hd hu hret
  refine wpAny_call ?_
  k_dflt cell_enter
  (try (refine let_AE ?_; intro A9q e9q)); (try ((with_reducible rename Fr _ _ _ _ => F9q); refine let_m F9q ?_; clear F9q; intro m9q F'))
  (try k_fold)
  k_steps
  (k_dflt (refine' KBa.make_K ?kbaF ?kbaN ?kbah ?kbal ?kbai ?_ ?kban ?_; (case kbaF => k_asm); (case kbaN => k_asm); (case kbah => rfl); (case kbal => kba_isList); (case kbai => kba_listInts); (case kban => kba_size)))
  · rw [e1, e2, hx_eq (by omega) (by omega), hx_eq (by omega) (by omega)]
    have b1 := hx_byte (n := c / 16) (by omega) (by omega)
    have b2 := hx_byte (n := c % 16) (by omega) (by omega)
    intro n hn
    simp only [List.mem_cons, List.not_mem_nil, or_false] at hn
    rcases hn with rfl | rfl | rfl <;> omega
  · intro h' t' k' F' N' hin
    (try k_fold)
    k_steps
    refine' gBytes (Q := Q) hret ?_ ?cF ?cN
    (case cF => k_asm)
    (case cN => first | k_asm | (refine' cb_drop ?cbN ?cbS; (case cbN => assumption); (case cbS => kcj_all)))
    rw [KBa.ints_make hin, e1, e2, hx_eq (by omega) (by omega), hx_eq (by omega) (by omega)]
theorem is_word_sign_at (w : World) (news : List (Addr × Obj)) (c : Int) (t : Tok) : CG w 1 297 [.int c t] news (RO news (decide (33 ≤ c ∧ c ≤ 126 ∧ c ≠ 63))) := by
  w_top off
  intro mean mg mb dp un gd cn cs a ccd cl outer A₀ base h₀ L m s Q E B F X N T hk hd hu hret
  refine wpAny_call ?_
  k_dflt cell_enter
  (try (refine let_AE ?_; intro A9q e9q)); (try ((with_reducible rename Fr _ _ _ _ => F9q); refine let_m F9q ?_; clear F9q; intro m9q F'))
  (try k_fold)
  k_steps
  all_goals (
    refine' gBool (Q := Q) hret ?_ ?cF ?cN
    (case cF => k_asm)
    (case cN => first | k_asm | (refine' cb_drop ?cbN ?cbS; (case cbN => assumption); (case cbS => kcj_all)))
    simp only [decide_eq_true_eq, decide_eq_false_iff_not, bne_iff_ne, Bool.decide_and] at *
    first
    | (rw [Bool.eq_iff_iff]; simp; omega)
    | skip)
theorem layP11 : True := by
  k_with "my call ref" => ((k_here; (with_reducible show wpAny _ _ (PySem.call (Value.ref 224) _) _ _ _); k_dflt (refine' called (hex_worth_at _ _ _ _) ?kBZ9 ?kFZ9 ?kXZ9 ?kNZ9 ?kTZ9 ?kKZ9 ?kDZ9 ?kUZ9 ?_; (case kBZ9 | kFZ9 | kXZ9 | kNZ9 | kTZ9 => k_asm); (case kKZ9 => first | exact rfl | assumption); (case kDZ9 => ktr_room); (case kUZ9 => ktr_units)); intro t'q h'q tk'q F'q N'q))
  k_with "my call ref" => ((k_here; (with_reducible show wpAny _ _ (PySem.call (Value.ref 297) _) _ _ _); k_dflt (refine' called (is_word_sign_at _ _ _ _) ?kBZ9 ?kFZ9 ?kXZ9 ?kNZ9 ?kTZ9 ?kKZ9 ?kDZ9 ?kUZ9 ?_; (case kBZ9 | kFZ9 | kXZ9 | kNZ9 | kTZ9 => k_asm); (case kKZ9 => first | exact rfl | assumption); (case kDZ9 => ktr_room); (case kUZ9 => ktr_units)); intro h'q tk'q F'q N'q))
  k_with "my call ref" => ((k_here; (with_reducible show wpAny _ _ (PySem.call (Value.ref 217) _) _ _ _); k_dflt (refine' called (quoted_code_at _ _ _ _ (by omega) (by omega)) ?kBZ9 ?kFZ9 ?kXZ9 ?kNZ9 ?kTZ9 ?kKZ9 ?kDZ9 ?kUZ9 ?_; (case kBZ9 | kFZ9 | kXZ9 | kNZ9 | kTZ9 => k_asm); (case kKZ9 => first | exact rfl | assumption); (case kDZ9 => ktr_room); (case kUZ9 => ktr_units)); intro b'q t'q h'q tk'q kbEq9 F'q N'q))
  exact True.intro

def WS : List Int := [65, 66, 67, 68, 69, 70, 71, 72, 73, 74, 75, 76, 77, 78, 79, 80, 81, 82, 83, 84, 85, 86, 87, 88, 89, 90, 97, 98, 99, 100, 101, 102, 103, 104, 105, 106, 107, 108, 109, 110, 111, 112, 113, 114, 115, 116, 117, 118, 119, 120, 121, 122, 48, 49, 50, 51, 52, 53, 54, 55, 56, 57, 33, 42, 43, 45, 47]
def qenc (c : Int) : List Int := if c = 32 then [95] else if c ∈ WS then [c] else [61, hx (c / 16), hx (c % 16)]
theorem qenc_len (ks : List Int) (h : ks.length ≤ 4096) : (ks.map (List.length ∘ qenc)).sum ≤ 16777216 := by
  have : (ks.map (List.length ∘ qenc)).sum ≤ 3 * ks.length := by
    clear h
    induction ks with
    | nil => simp
    | cons k r ih =>
      have : (qenc k).length ≤ 3 := by unfold qenc; split <;> (try split) <;> simp
      simp only [List.map_cons, List.sum_cons, List.length_cons, Function.comp]; omega
  omega
theorem word_q_encoded_at (w : World) (news : List (Addr × Obj)) (b : Array UInt8) (ks : List Int) (t : Tok) (hb : KBw.bInts b = ks) (hn : ks.length ≤ 4096) : CG w 2 245 [.bytes b t] news (RB news (ks.flatMap qenc)) := by
  w_top off
  intro mean mg mb dp un gd cn cs a ccd cl outer A₀ base h₀ L m s Q E B F X N T hk hd hu hret
  refine wpAny_call ?_
  k_dflt cell_enter
  (try (refine let_AE ?_; intro A9q e9q)); (try ((with_reducible rename Fr _ _ _ _ => F9q); refine let_m F9q ?_; clear F9q; intro m9q F'))
  have hmkP21 : OwnW := True.intro
  k_with "pyIter bytes" => (guard_hyp hmkP21; k_dflt (refine' lp_bytes (fun (c : List Value × Nat) => listOf c.1.toArray c.2) (fun _ => []) [] (fun i c => BtsAre c.1 ((ks.take i).map qenc)) ([], 0) hb rfl (by k_asm) (by k_asm) (fun _ hp => nomatch hp) .nil ?_ ?_))
  (try k_fold)
  k_steps
  · intro i k t c u h1 tk own hi h0 h1 hoff hJ F' N'
    have hlen : c.1.length ≤ 4096 := by have := hJ.length; simp at this; omega
    (try k_fold)
    (try (refine let_m F' ?_; clear F'; intro m9q F'm))
    k_steps
    all_goals
      refine' lp_end (_, _) ?lpF ?lpN ?lpn ?lpo ?lpa ?lpk ?lpr ?_
      (case lpF => k_asm)
      (case lpN => k_asm)
      (case lpn => kcf_all)
      (case lpo => kcf_all)
      (case lpa => exact rfl)
      (case lpk => first | exact List.forall_mem_nil _ | kst_all)
      (case lpr => (intro z9 h91 h92 h93; first | ((repeat (with_reducible refine lz_cond ?n9 ?_; (case n9 => first | exact h91 | exact lz_sto h93 rfl | exact lz_ps h92 rfl))); refine' (lz_off ?n9).trans ?_; (case n9 => first | exact lz_all h92 rfl | exact List.forall_mem_nil _); exact if_neg (lz_ns h93)) | ((try simp only [List.mem_cons, List.not_mem_nil, or_false, forall_eq, forall_eq_or_imp] at h92); first | (simp only [h91, if_false, kstB]; done) | (simp [kstB, h91, h92]; done) | (simp_all [kstB]; done))))
      rw [List.take_add_one, hi, Option.toList_some, List.map_append, List.map_cons, List.map_nil]
      refine hJ.snoc ?_
    · rename (k = 32) => e; subst e; rfl
    · rename (k ≠ 32) => e1; rename (k ∈ _) => e2
      unfold qenc
      rw [if_neg e1, if_pos (show k ∈ WS from e2)]
      exact congrArg (fun x => [x]) (byte_back h0 h1)
    · rename (k ≠ 32) => e1; rename (¬ k ∈ _) => e2
      unfold qenc
      rw [if_neg e1, if_neg (show ¬ k ∈ WS from e2)]
      assumption
  · intro c u h1 tk hJ F' N'
    rw [List.take_length] at hJ
    (try k_fold)
    (try (refine let_m F' ?_; clear F'; intro m9q F'm))
    k_steps
    k_dflt (refine' bytes_join (kss := ks.map qenc) (sep := []) rfl (by is_list) hJ ?_ ?_)
    · rw [joinL_nil, List.length_flatten, List.map_map]; exact qenc_len _ hn
    · intro b' t' k' hb'
      (try k_fold)
      (try (refine let_m F' ?_; clear F'; intro m9q F'm))
      k_steps
      refine' gBytes (Q := Q) hret ?_ ?cF ?cN
      (case cF => k_asm)
      (case cN => first | k_asm | (refine' cb_drop ?cbN ?cbS; (case cbN => assumption); (case cbS => kcj_all)))
      rw [hb', joinL_nil]; rfl
theorem layP21 : True := by
  k_with "my call ref" => ((k_here; (with_reducible show wpAny _ _ (PySem.call (Value.ref 245) _) _ _ _); k_dflt (refine' called (word_q_encoded_at _ _ _ _ _ (by kba_ints) (by omega)) ?kBZ9 ?kFZ9 ?kXZ9 ?kNZ9 ?kTZ9 ?kKZ9 ?kDZ9 ?kUZ9 ?_; (case kBZ9 | kFZ9 | kXZ9 | kNZ9 | kTZ9 => k_asm); (case kKZ9 => first | exact rfl | assumption); (case kDZ9 => ktr_room); (case kUZ9 => ktr_units)); intro b'q t'q h'q tk'q kbEq9 F'q N'q))
  exact True.intro

def qat (ks : List Int) (i : Int) : Int := if i + 2 ≥ ks.length then -1 else if hexw (ks.getD (i + 1).toNat 0) ≥ 0 ∧ hexw (ks.getD (i + 2).toNat 0) ≥ 0 then 16 * hexw (ks.getD (i + 1).toNat 0) + hexw (ks.getD (i + 2).toNat 0) else -1
theorem quoted_at_at (w : World) (news : List (Addr × Obj)) (b : Array UInt8) (ks : List Int) (t t' : Tok) (i : Int) (hb : KBw.bInts b = ks) (hn : ks.length ≤ 1048576) (h0 : 0 ≤ i) : CG w 2 231 [.bytes b t, .int i t'] news (RI news (qat ks i)) := by
  w_top off
  intro mean mg mb dp un gd cn cs a ccd cl outer A₀ base h₀ L m s Q E B F X N T hk hd hu hret
  refine wpAny_call ?_
  k_dflt cell_enter
  (try (refine let_AE ?_; intro A9q e9q)); (try ((with_reducible rename Fr _ _ _ _ => F9q); refine let_m F9q ?_; clear F9q; intro m9q F'))
  (try k_fold)
  k_steps
  all_goals
    refine' gInt (Q := Q) hret ?_ ?cF ?cN
    (case cF => k_asm)
    (case cN => first | k_asm | (refine' cb_drop ?cbN ?cbS; (case cbN => assumption); (case cbS => kcj_all)))
    unfold qat
    simp only [decide_eq_true_eq, decide_eq_false_iff_not] at *
    first
    | (rw [if_pos (by omega)]; done)
    | (rw [if_neg (by omega)]; first | (rw [if_pos (by omega)]; done) | (rw [if_neg (by omega)]; done))
theorem layP31 : True := by
  k_with "my call ref" => ((k_here; (with_reducible show wpAny _ _ (PySem.call (Value.ref 231) _) _ _ _); k_dflt (refine' called (quoted_at_at _ _ _ _ _ _ _ (by kba_ints) (by omega) (by omega)) ?kBZ9 ?kFZ9 ?kXZ9 ?kNZ9 ?kTZ9 ?kKZ9 ?kDZ9 ?kUZ9 ?_; (case kBZ9 | kFZ9 | kXZ9 | kNZ9 | kTZ9 => k_asm); (case kKZ9 => first | exact rfl | assumption); (case kDZ9 => ktr_room); (case kUZ9 => ktr_units)); intro t'q h'q tk'q F'q N'q))
  exact True.intro
def unq : List Int → List Int
  | [] => []
  | [c] => [c]
  | [c, d] => [c, d]
  | c :: d :: e :: r => if c = 61 ∧ hexw d ≥ 0 ∧ hexw e ≥ 0 then (16 * hexw d + hexw e) :: unq r else c :: unq (d :: e :: r)
theorem hexw_lt (c : Int) : hexw c < 16 := by unfold hexw; (repeat' split) <;> omega
theorem qat_lt (ks : List Int) (i : Int) : qat ks i < 256 := by
  have h1 := hexw_lt (ks.getD (i + 1).toNat 0)
  have h2 := hexw_lt (ks.getD (i + 2).toNat 0)
  unfold qat; split <;> (try split) <;> omega
theorem qat_in (ks : List Int) (i : Int) (h : 0 ≤ qat ks i) : i + 3 ≤ ks.length := by
  unfold qat at h; split at h <;> omega
theorem unq_step (ks : List Int) (i k : Int) (h0 : 0 ≤ i) (h1 : i < ks.length) (h : ks.getD i.toNat 0 = k) : unq (ks.drop i.toNat) = if k = 61 ∧ 0 ≤ qat ks i then qat ks i :: unq (ks.drop (i + 3).toNat) else k :: unq (ks.drop (i + 1).toNat) := by
  obtain ⟨n, rfl⟩ := Int.eq_ofNat_of_zero_le h0
  have hn : n < ks.length := by omega
  have e1 : ks.drop n = k :: ks.drop (n + 1) := by
    rw [List.drop_eq_getElem_cons hn, ← h]; simp [List.getD_eq_getElem?_getD, List.getElem?_eq_getElem hn]
  have g1 : ∀ j : Nat, ks.getD (n + j) 0 = (ks.drop n).getD j 0 := by intro j; simp [List.getD_eq_getElem?_getD, List.getElem?_drop]
  have hl : (ks.drop n).length = ks.length - n := List.length_drop
  have q : qat ks n = if (n : Int) + 2 ≥ ks.length then -1 else if hexw ((ks.drop n).getD 1 0) ≥ 0 ∧ hexw ((ks.drop n).getD 2 0) ≥ 0 then 16 * hexw ((ks.drop n).getD 1 0) + hexw ((ks.drop n).getD 2 0) else -1 := by
    rw [← g1, ← g1]; rfl
  have d3 : ks.drop (n + 3) = (ks.drop (n + 1)).drop 2 := by rw [List.drop_drop]
  rw [q]
  show unq (ks.drop n) = if _ then _ :: unq (ks.drop (n + 3)) else k :: unq (ks.drop (n + 1))
  rw [d3]
  rw [e1] at hl ⊢
  generalize ks.drop (n + 1) = r at hl ⊢
  match r, hl with
  | [], hl => simp only [List.length_cons, List.length_nil] at hl; rw [if_pos (show (n : Int) + 2 ≥ ks.length by omega), if_neg (by omega)]; rfl
  | [d], hl => simp only [List.length_cons, List.length_nil] at hl; rw [if_pos (show (n : Int) + 2 ≥ ks.length by omega), if_neg (by omega)]; rfl
  | d :: e :: r, hl =>
    simp only [List.length_cons] at hl
    rw [if_neg (show ¬ ((n : Int) + 2 ≥ ks.length) by omega)]
    show (if k = 61 ∧ hexw d ≥ 0 ∧ hexw e ≥ 0 then _ else _) = if k = 61 ∧ 0 ≤ (if hexw d ≥ 0 ∧ hexw e ≥ 0 then 16 * hexw d + hexw e else -1) then (if hexw d ≥ 0 ∧ hexw e ≥ 0 then 16 * hexw d + hexw e else -1) :: unq r else _
    by_cases hh : hexw d ≥ 0 ∧ hexw e ≥ 0
    · rw [if_pos hh]
      by_cases hk : k = 61
      · rw [if_pos ⟨hk, hh⟩, if_pos ⟨hk, by omega⟩]
      · rw [if_neg (by omega), if_neg (by omega)]
    · rw [if_neg hh, if_neg (by omega), if_neg (by omega)]
theorem in_snoc {xs : List Int} {x : Int} (h : KBa.In xs) (h0 : 0 ≤ x) (h1 : x < 256) : KBa.In (xs ++ [x]) := by
  intro n hn
  rcases List.mem_append.mp hn with h' | h'
  · exact h n h'
  · rw [List.mem_singleton.mp h']; exact ⟨h0, h1⟩
theorem ints_snoc' {vs : List Value} {xs : List Int} (h : IntsAre vs xs) (x : Int) (t : Tok) : IntsAre (vs ++ [.int x t]) (xs ++ [x]) := h.append (.cons _ _ .nil)
theorem unquoted_at (w : World) (news : List (Addr × Obj)) (b : Array UInt8) (ks : List Int) (t : Tok) (hb : KBw.bInts b = ks) (hn : ks.length ≤ 4096) : CG w 3 238 [.bytes b t] news (RB news (unq ks)) := by
  w_top off
  intro mean mg mb dp un gd cn cs a ccd cl outer A₀ base h₀ L m s Q E B F X N T hk hd hu hret
  refine wpAny_call ?_
  k_dflt cell_enter
  (try (refine let_AE ?_; intro A9q e9q)); (try ((with_reducible rename Fr _ _ _ _ => F9q); refine let_m F9q ?_; clear F9q; intro m9q F'))
  have hmkP31 : OwnW := True.intro
  k_with "exec While Compare cons nil" => (guard_hyp hmkP31; k_dflt (refine' lp_while (σ := List Value × List Int × Nat × Int × Tok) (fun c => listOf c.1.toArray c.2.2.1) (fun c => [("at", .int c.2.2.2.1 c.2.2.2.2)]) ["code"] (fun c => IntsAre c.1 c.2.1 ∧ KBa.In c.2.1 ∧ 0 ≤ c.2.2.2.1 ∧ c.2.2.2.1 ≤ ks.length ∧ c.1.length ≤ c.2.2.2.1.toNat ∧ c.2.1 ++ unq (ks.drop c.2.2.2.1.toNat) = unq ks) (fun c => ks.length - c.2.2.2.1.toNat) ([], [], 0, 0, _) (by k_asm) (by k_asm) (by kst_all) ⟨.nil, (fun _ hp => nomatch hp), Int.le_refl _, Int.natCast_nonneg _, Nat.zero_le _, rfl⟩ (by passes_own) ?_))
  (try k_fold)
  k_steps
  intro c u h1 tk ⟨hI, hin, h0, h1', hl, hJ⟩ F' N'
  have hl2 : c.1.length ≤ 4096 := by omega
  have hq := qat_lt ks c.2.2.2.1
  have hqi := qat_in ks c.2.2.2.1
  have hs := fun hlt => unq_step ks c.2.2.2.1 _ h0 hlt rfl
  (try k_fold)
  (try (refine let_m F' ?_; clear F'; intro m9q F'm))
  k_steps
  · rename (ks.getD _ 0 = 61) => e1; rename (0 ≤ qat ks _) => e2; rename (c.2.2.2.1 < _) => e3
    have hs := hs e3
    rw [if_pos ⟨e1, e2⟩] at hs
    refine' ksw_end (_, c.2.1 ++ [qat ks c.2.2.2.1], _, c.2.2.2.1 + 3, _) ?lpF ?lpN ?lpn trivial ?lpk ?lpr ?_ ?_
    (case lpF => k_asm)
    (case lpN => k_asm)
    (case lpn => kcf_all)
    (case lpk => first | exact List.forall_mem_nil _ | kst_all)
    (case lpr => (intro z9 h92 h93; first | ((repeat (with_reducible refine lz_cond ?n9 ?_; (case n9 => first | exact lz_sto h93 rfl | exact lz_ps h92 rfl))); refine' (lz_off ?n9).trans ?_; (case n9 => first | exact lz_all h92 rfl | exact List.forall_mem_nil _); exact if_neg (lz_ns h93)) | ((try simp only [List.mem_cons, List.not_mem_nil, or_false, forall_eq, forall_eq_or_imp] at h92); first | (simp [kstB, h92]; done) | (simp_all [kstB]; done))))
    · exact ⟨ints_snoc' hI _ _, in_snoc hin e2 hq, by dsimp only; omega, by dsimp only; have := hqi e2; omega, by dsimp only; rw [List.length_append, List.length_singleton]; exact toNat_up c.2.2.2.1 (by assumption) (by assumption) (by omega), by dsimp only; rw [← hJ, hs, List.append_assoc]; rfl⟩
    · exact meas (by assumption) (by first | assumption | (have := hqi e2; omega)) (by dsimp only; omega)
  · rename (ks.getD _ 0 = 61) => e1; rename (¬ 0 ≤ qat ks _) => e2; rename (c.2.2.2.1 < _) => e3
    have hs := hs e3
    rw [if_neg (fun h => e2 h.2)] at hs
    refine' ksw_end (_, c.2.1 ++ [ks.getD c.2.2.2.1.toNat 0], _, c.2.2.2.1 + 1, _) ?lpF ?lpN ?lpn trivial ?lpk ?lpr ?_ ?_
    (case lpF => k_asm)
    (case lpN => k_asm)
    (case lpn => kcf_all)
    (case lpk => first | exact List.forall_mem_nil _ | kst_all)
    (case lpr => (intro z9 h92 h93; first | ((repeat (with_reducible refine lz_cond ?n9 ?_; (case n9 => first | exact lz_sto h93 rfl | exact lz_ps h92 rfl))); refine' (lz_off ?n9).trans ?_; (case n9 => first | exact lz_all h92 rfl | exact List.forall_mem_nil _); exact if_neg (lz_ns h93)) | ((try simp only [List.mem_cons, List.not_mem_nil, or_false, forall_eq, forall_eq_or_imp] at h92); first | (simp [kstB, h92]; done) | (simp_all [kstB]; done))))
    · exact ⟨ints_snoc' hI _ _, in_snoc hin (by assumption) (by assumption), by dsimp only; omega, by dsimp only; omega, by dsimp only; rw [List.length_append, List.length_singleton]; exact toNat_up c.2.2.2.1 (by assumption) (by assumption) (by omega), by dsimp only; rw [← hJ, hs, List.append_assoc]; rfl⟩
    · exact meas (by assumption) (by first | assumption | (have := hqi e2; omega)) (by dsimp only; omega)
  · rename (ks.getD _ 0 ≠ 61) => e1; rename (c.2.2.2.1 < _) => e3
    have hs := hs e3
    rw [if_neg (fun h => e1 h.1)] at hs
    refine' ksw_end (_, c.2.1 ++ [ks.getD c.2.2.2.1.toNat 0], _, c.2.2.2.1 + 1, _) ?lpF ?lpN ?lpn trivial ?lpk ?lpr ?_ ?_
    (case lpF => k_asm)
    (case lpN => k_asm)
    (case lpn => kcf_all)
    (case lpk => first | exact List.forall_mem_nil _ | kst_all)
    (case lpr => (intro z9 h92 h93; first | ((repeat (with_reducible refine lz_cond ?n9 ?_; (case n9 => first | exact lz_sto h93 rfl | exact lz_ps h92 rfl))); refine' (lz_off ?n9).trans ?_; (case n9 => first | exact lz_all h92 rfl | exact List.forall_mem_nil _); exact if_neg (lz_ns h93)) | ((try simp only [List.mem_cons, List.not_mem_nil, or_false, forall_eq, forall_eq_or_imp] at h92); first | (simp [kstB, h92]; done) | (simp_all [kstB]; done))))
    · exact ⟨ints_snoc' hI _ _, in_snoc hin (by assumption) (by assumption), by dsimp only; omega, by dsimp only; omega, by dsimp only; rw [List.length_append, List.length_singleton]; exact toNat_up c.2.2.2.1 (by assumption) (by assumption) (by omega), by dsimp only; rw [← hJ, hs, List.append_assoc]; rfl⟩
    · exact meas (by assumption) (by first | assumption | (have := hqi e2; omega)) (by dsimp only; omega)
  · rw [List.drop_eq_nil_of_le (by omega)] at hJ
    refine' gBytes (Q := Q) hret ?_ ?cF ?cN
    (case cF => k_asm)
    (case cN => first | k_asm | (refine' cb_drop ?cbN ?cbS; (case cbN => assumption); (case cbS => kcj_all)))
    rw [KBa.ints_make hin, ← hJ]; exact (List.append_nil _).symm
theorem layP32 : True := by
  k_with "my call ref" => ((k_here; (with_reducible show wpAny _ _ (PySem.call (Value.ref 238) _) _ _ _); k_dflt (refine' called (unquoted_at _ _ _ _ _ (by kba_ints) (by omega)) ?kBZ9 ?kFZ9 ?kXZ9 ?kNZ9 ?kTZ9 ?kKZ9 ?kDZ9 ?kUZ9 ?_; (case kBZ9 | kFZ9 | kXZ9 | kNZ9 | kTZ9 => k_asm); (case kKZ9 => first | exact rfl | assumption); (case kDZ9 => ktr_room); (case kUZ9 => ktr_units)); intro b'q t'q h'q tk'q kbEq9 F'q N'q))
  exact True.intro

section
variable {prog : Program} {w : World} {A : Around} {E : Value → Shared → Prop} {s : Shared} {h₀ : Heap} {L : Addr} {m : Str → Option Value} {env : Env} {elt ct iter : Expr} {x : Str} {scope : Scope} {cl : List (Str × Addr)} {P : Nat → Value → Prop} {S : List (Addr × Obj) → Prop} {n : Nat} {σ : Type}
/-- an iterator that a comprehension may walk -/
def ItOk (prog : Program) (w : World) (A : Around) (h₀ : Heap) (L : Addr) (m : Str → Option Value) (s₂ : Shared) (it : Value) (n : Nat) (P : Nat → Value → Prop) (S : List (Addr × Obj) → Prop) (news : List (Addr × Obj)) : Prop :=
  ∃ I fp St, it = .ref I ∧ Walks prog w A I fp [I] n P St ∧ n ≤ sizeLine ∧ (∀ i h, St i h → ∃ o, h.get? I = some o) ∧
    (∀ i h h' o nw, St i h → h.get? I = some o → h'.get? I = some o → (∀ b o, h₀.get? b = some o → h'.get? b = some o) → News h₀ L h' nw → S nw → St i h') ∧
    St 0 s₂.heap ∧ (∀ b ∈ fp, b < s₂.heap.objs.size) ∧ Fr h₀ L s₂.heap m ∧ News h₀ L s₂.heap news ∧ L ≠ I ∧ h₀.get? I = none ∧ (∀ p ∈ news, p.1 ≠ I) ∧ S news
def CpU (prog : Program) (w : World) (A : Around) (h₀ : Heap) (L : Addr) (m : Str → Option Value) (env : Env) (elt : Expr) (x : Str) (scope : Scope) (cl : List (Str × Addr)) (Fin : Shared → List Value → List (Addr × Obj) → Prop) (it : Value) (s₂ : Shared) : Prop :=
  ∃ n P S news, ItOk prog w A h₀ L m s₂ it n P S news ∧ LCg.CompRest prog w A h₀ L m env elt x scope cl s₂ S P (Fin s₂) n 0 [] news
def CpT (prog : Program) (w : World) (A : Around) (h₀ : Heap) (L : Addr) (m : Str → Option Value) (env : Env) (ct elt : Expr) (x : Str) (scope : Scope) (cl : List (Str × Addr)) (Fin : Shared → List Value → List (Addr × Obj) → Prop) (it : Value) (s₂ : Shared) : Prop :=
  ∃ n P S news, ItOk prog w A h₀ L m s₂ it n P S news ∧ LCt.CompRestT prog w A h₀ L m env ct elt x scope cl s₂ S P (Fin s₂) n 0 [] news
theorem comp_U {px : Pos} {pos : Pos} {Q : Value → Shared → Prop} (_F₀ : Fr h₀ L s.heap m)
    (hclos : closureFor scope env = pure cl) (hcell : ∀ y ∈ scope.names, y.2 ≠ .cell) (hkind : scope.kind = .function)
    (hnames : ∀ y ∈ scope.names, y.2 = .local → scope.names.lookup y.1 = some .local) (hx : scope.names.lookup x = some .local)
    (h : wpAny (model prog w) A (eval iter env) (fun xv s₁ => wpAny (model prog w) A (pyIter xv) (CpU prog w A h₀ L m env elt x scope cl (fun s₂ => LCg.FinE h₀ L m s₂ Q)) E s₁) E s)
    (hs : ∀ x, foldedSetIterable iter env x = pure x := by intro _; rfl) :
    wpAny (model prog w) A (eval (.ListComp elt [⟨.Name x px, iter, [], 0⟩] scope pos) env) Q E s := by
  rw [eval_ListComp]
  refine wpAny_comprehension_free (use := none) rfl hs hclos hkind hnames (wpAny_mono h (fun xv s₁ h₁ => wpAny_mono h₁ (fun it s₂ h₂ => ?_) fun _ _ e => e) fun _ _ e => e)
  obtain ⟨n, P, S, news, ⟨I, fp, St, rfl, W, hsz, hIo, hSt, hst, hfp, F, N, hIL, hI₀, off, hS⟩, R⟩ := h₂
  refine LCg.block_U W hsz hIo hSt hcell hkind hx hst hfp F N hIL hI₀ off hS R ?_
  intro D C h tk m' ys news' F' N' o1 hn hC₀ hD₀ hCL hDL hCD offC fin
  refine ⟨m', hn, fun h'' hs'' => fin D h'' tk (F'.change hs'' hCL hC₀) (fun p hp => ?_) o1⟩
  refine ⟨hs''.extBut _ _ ?_ (N' p hp).1, (N' p hp).2⟩
  rcases List.mem_cons.mp hp with rfl | hp
  · exact Ne.symm hCD
  · exact offC p hp
theorem comp_T {px : Pos} {pos : Pos} {Q : Value → Shared → Prop} (_F₀ : Fr h₀ L s.heap m)
    (hclos : closureFor scope env = pure cl) (hcell : ∀ y ∈ scope.names, y.2 ≠ .cell) (hkind : scope.kind = .function)
    (hnames : ∀ y ∈ scope.names, y.2 = .local → scope.names.lookup y.1 = some .local) (hx : scope.names.lookup x = some .local)
    (h : wpAny (model prog w) A (eval iter env) (fun xv s₁ => wpAny (model prog w) A (pyIter xv) (CpT prog w A h₀ L m env ct elt x scope cl (fun s₂ => LCg.FinE h₀ L m s₂ Q)) E s₁) E s)
    (hs : ∀ x, foldedSetIterable iter env x = pure x := by intro _; rfl) :
    wpAny (model prog w) A (eval (.ListComp elt [⟨.Name x px, iter, [ct], 0⟩] scope pos) env) Q E s := by
  rw [eval_ListComp]
  refine wpAny_comprehension_free (use := none) rfl hs hclos hkind hnames (wpAny_mono h (fun xv s₁ h₁ => wpAny_mono h₁ (fun it s₂ h₂ => ?_) fun _ _ e => e) fun _ _ e => e)
  obtain ⟨n, P, S, news, ⟨I, fp, St, rfl, W, hsz, hIo, hSt, hst, hfp, F, N, hIL, hI₀, off, hS⟩, R⟩ := h₂
  refine LCt.block_T W hsz hIo hSt hcell hkind hx hst hfp F N hIL hI₀ off hS R ?_
  intro D C h tk m' ys news' F' N' o1 hn hC₀ hD₀ hCL hDL hCD offC fin
  refine ⟨m', hn, fun h'' hs'' => fin D h'' tk (F'.change hs'' hCL hC₀) (fun p hp => ?_) o1⟩
  refine ⟨hs''.extBut _ _ ?_ (N' p hp).1, (N' p hp).2⟩
  rcases List.mem_cons.mp hp with rfl | hp
  · exact Ne.symm hCD
  · exact offC p hp
theorem comp_AU {y : Str} {px py : Pos} {pos spos : Pos} {Q : Flow → Shared → Prop} (_F₀ : Fr h₀ L s.heap m) (hLe : env.locals = L)
    (hsw : swapsWith (.ListComp elt [⟨.Name x px, iter, [], 0⟩] scope pos) (some (.Name y py)) spos.line env = pure true)
    (hclos : closureFor scope env = pure cl) (hcell : ∀ z ∈ scope.names, z.2 ≠ .cell) (hkind : scope.kind = .function)
    (hnames : ∀ z ∈ scope.names, z.2 = .local → scope.names.lookup z.1 = some .local) (hx : scope.names.lookup x = some .local)
    (hy : env.kindOf y = some .local) (hp : (env.scope.kind == .class || (env.scope.kind == .module && env.locals != env.globals)) = false)
    (h : wpAny (model prog w) A (eval iter env) (fun xv s₁ => wpAny (model prog w) A (pyIter xv) (CpU prog w A h₀ L m env elt x scope cl (fun s₂ => LCg.FinA h₀ L m s₂ y Q)) E s₁) E s)
    (hs : ∀ x, foldedSetIterable iter env x = pure x := by intro _; rfl) :
    wpAny (model prog w) A (exec (.Assign [.Name y py] (.ListComp elt [⟨.Name x px, iter, [], 0⟩] scope pos) spos) env) Q E s := by
  subst hLe
  rw [exec_Assign_Name_used _ _ _ _ hsw]
  refine wpAny_bind (wpAny_standAt (wpAny_bind ?_))
  show wpAny _ A (do let _ ← comprehension (.ListComp elt [⟨.Name x px, iter, [], 0⟩] scope pos) scope env _ (newList []) false (eval iter env) (some (assign (.Name y py) env))) _ _ s
  refine wpAny_bind (wpAny_mono (wpAny_comprehension_free (use := some (assign (.Name y py) env)) (Q := fun _ s' => Q .next s') rfl hs hclos hkind hnames
    (wpAny_mono h (fun xv s₁ h₁ => wpAny_mono h₁ (fun it s₂ h₂ => ?_) fun _ _ e => e) fun _ _ e => e)) (fun _ s' hq => wpAny_pure (wpAny_pure hq)) fun _ _ e => e)
  obtain ⟨n, P, S, news, ⟨I, fp, St, rfl, W, hsz, hIo, hSt, hst, hfp, F, N, hIL, hI₀, off, hS⟩, R⟩ := h₂
  refine LCg.block_U W hsz hIo hSt hcell hkind hx hst hfp F N hIL hI₀ off hS R ?_
  intro D C h' tk m' ys news' F' N' o1 hn hC₀ hD₀ hCL hDL hCD offC fin
  show wpAny _ A (assign (.Name y py) env (.ref D)) _ _ _
  refine wpAny_assign_Name (wpAny_storeName_local hy F'.ns (fun h₂ hn₂ hs₂ => ?_) hp)
  have hL₀ : h₀.get? env.locals = none := Heap.get?_none_of_le F'.above
  have F₂ : Fr h₀ env.locals h₂ (fun z => if z = y then some (.ref D) else m z) := ⟨hn₂, fun b o e => hs₂.extBut b o (fun q => by rw [q, hL₀] at e; cases e) (F'.keep b o e), F'.above⟩
  refine ⟨m', hn.sameBut hs₂ hCL, fun h'' hs'' => fin D h'' _ (F₂.change hs'' hCL hC₀) (fun p hp => ?_) o1⟩
  have z : h₂.get? p.1 = some p.2 := hs₂.extBut _ _ (N' p hp).2.1 (N' p hp).1
  refine ⟨hs''.extBut _ _ ?_ z, (N' p hp).2⟩
  rcases List.mem_cons.mp hp with rfl | hp
  · exact Ne.symm hCD
  · exact offC p hp
theorem comp_AT {y : Str} {px py : Pos} {pos spos : Pos} {Q : Flow → Shared → Prop} (_F₀ : Fr h₀ L s.heap m) (hLe : env.locals = L)
    (hsw : swapsWith (.ListComp elt [⟨.Name x px, iter, [ct], 0⟩] scope pos) (some (.Name y py)) spos.line env = pure true)
    (hclos : closureFor scope env = pure cl) (hcell : ∀ z ∈ scope.names, z.2 ≠ .cell) (hkind : scope.kind = .function)
    (hnames : ∀ z ∈ scope.names, z.2 = .local → scope.names.lookup z.1 = some .local) (hx : scope.names.lookup x = some .local)
    (hy : env.kindOf y = some .local) (hp : (env.scope.kind == .class || (env.scope.kind == .module && env.locals != env.globals)) = false)
    (h : wpAny (model prog w) A (eval iter env) (fun xv s₁ => wpAny (model prog w) A (pyIter xv) (CpT prog w A h₀ L m env ct elt x scope cl (fun s₂ => LCg.FinA h₀ L m s₂ y Q)) E s₁) E s)
    (hs : ∀ x, foldedSetIterable iter env x = pure x := by intro _; rfl) :
    wpAny (model prog w) A (exec (.Assign [.Name y py] (.ListComp elt [⟨.Name x px, iter, [ct], 0⟩] scope pos) spos) env) Q E s := by
  subst hLe
  rw [exec_Assign_Name_used _ _ _ _ hsw]
  refine wpAny_bind (wpAny_standAt (wpAny_bind ?_))
  show wpAny _ A (do let _ ← comprehension (.ListComp elt [⟨.Name x px, iter, [ct], 0⟩] scope pos) scope env _ (newList []) false (eval iter env) (some (assign (.Name y py) env))) _ _ s
  refine wpAny_bind (wpAny_mono (wpAny_comprehension_free (use := some (assign (.Name y py) env)) (Q := fun _ s' => Q .next s') rfl hs hclos hkind hnames
    (wpAny_mono h (fun xv s₁ h₁ => wpAny_mono h₁ (fun it s₂ h₂ => ?_) fun _ _ e => e) fun _ _ e => e)) (fun _ s' hq => wpAny_pure (wpAny_pure hq)) fun _ _ e => e)
  obtain ⟨n, P, S, news, ⟨I, fp, St, rfl, W, hsz, hIo, hSt, hst, hfp, F, N, hIL, hI₀, off, hS⟩, R⟩ := h₂
  refine LCt.block_T W hsz hIo hSt hcell hkind hx hst hfp F N hIL hI₀ off hS R ?_
  intro D C h' tk m' ys news' F' N' o1 hn hC₀ hD₀ hCL hDL hCD offC fin
  show wpAny _ A (assign (.Name y py) env (.ref D)) _ _ _
  refine wpAny_assign_Name (wpAny_storeName_local hy F'.ns (fun h₂ hn₂ hs₂ => ?_) hp)
  have hL₀ : h₀.get? env.locals = none := Heap.get?_none_of_le F'.above
  have F₂ : Fr h₀ env.locals h₂ (fun z => if z = y then some (.ref D) else m z) := ⟨hn₂, fun b o e => hs₂.extBut b o (fun q => by rw [q, hL₀] at e; cases e) (F'.keep b o e), F'.above⟩
  refine ⟨m', hn.sameBut hs₂ hCL, fun h'' hs'' => fin D h'' _ (F₂.change hs'' hCL hC₀) (fun p hp => ?_) o1⟩
  have z : h₂.get? p.1 = some p.2 := hs₂.extBut _ _ (N' p hp).2.1 (N' p hp).1
  refine ⟨hs''.extBut _ _ ?_ z, (N' p hp).2⟩
  rcases List.mem_cons.mp hp with rfl | hp
  · exact Ne.symm hCD
  · exact offC p hp
theorem restU {Fin : List Value → List (Addr × Obj) → Prop} (led : σ → List (Addr × Obj)) (J : Nat → σ → List Value → Prop) (c₀ : σ) (hj : J 0 c₀ [])
    (turn : ∀ i v (c : σ) ys I oI C oC D m₂ h tk (E' : Value → Shared → Prop), i < n → P i v → J i c ys → LCg.NsObj oC m₂ → m₂ x = some v → Fr h₀ L h m → News h₀ L h ((I, oI) :: (C, oC) :: (D, LCg.lst ys) :: led c) → LCg.Off3 I C D (led c) → ((@Ne Nat I C) ∧ (@Ne Nat I D) ∧ (@Ne Nat C D)) →
      wpAny (model prog w) A (eval elt (compEnvC scope cl C env)) (LCg.CompEnd h₀ L m { s with heap := h, toks := tk } I oI C oC D (LCg.lst ys) S (fun y news' => ∃ c', news' = led c' ∧ J (i + 1) c' (ys ++ [y]))) E' { s with heap := h, toks := tk })
    (fin : ∀ c ys, J n c ys → Fin ys (led c)) : LCg.CompRest prog w A h₀ L m env elt x scope cl s S P Fin n 0 [] (led c₀) := by
  have key : ∀ (j i : Nat) (c : σ) (ys : List Value), i + j = n → J i c ys → LCg.CompRest prog w A h₀ L m env elt x scope cl s S P Fin j i ys (led c) := by
    intro j
    induction j with
    | zero => intro i c ys hi hy; obtain rfl : i = n := by omega
              exact LCg.CompRest.zero (fin c ys hy)
    | succ j ih =>
      intro i c ys hi hy
      refine LCg.CompRest.succ ?_
      intro v I oI C oC D m₂ h tk E' hv hC hx F N off ne
      refine wpAny_mono (turn i v c ys I oI C oC D m₂ h tk E' (by omega) hv hy hC hx F N off ne) (fun y s₂ hq => ?_) fun _ _ e => e
      obtain ⟨h', tk', nw, e, F', N', off', hS, c', rfl, hJ⟩ := hq
      exact ⟨h', tk', _, e, F', N', off', hS, ih (i + 1) c' _ (by omega) hJ⟩
  exact key n 0 c₀ [] (by omega) hj
theorem restT {Fin : List Value → List (Addr × Obj) → Prop} (led : σ → List (Addr × Obj)) (J : Nat → σ → List Value → Prop) (c₀ : σ) (hj : J 0 c₀ [])
    (turn : ∀ i v (c : σ) ys I oI C oC D m₂ h tk (E' : Value → Shared → Prop), i < n → P i v → J i c ys → LCg.NsObj oC m₂ → m₂ x = some v → Fr h₀ L h m → News h₀ L h ((I, oI) :: (C, oC) :: (D, LCg.lst ys) :: led c) → LCg.Off3 I C D (led c) → ((@Ne Nat I C) ∧ (@Ne Nat I D) ∧ (@Ne Nat C D)) →
      wpAny (model prog w) A (isTrue ct (compEnvC scope cl C env) (eval ct (compEnvC scope cl C env))) (fun ok s' => if ok = true then
        wpAny (model prog w) A (eval elt (compEnvC scope cl C env)) (LCg.CompEnd h₀ L m { s with heap := h, toks := tk } I oI C oC D (LCg.lst ys) S (fun y news' => ∃ c', news' = led c' ∧ J (i + 1) c' (ys ++ [y]))) E' s'
        else LCg.CompEnd h₀ L m { s with heap := h, toks := tk } I oI C oC D (LCg.lst ys) S (fun _ news' => ∃ c', news' = led c' ∧ J (i + 1) c' ys) Value.none s') E' { s with heap := h, toks := tk })
    (fin : ∀ c ys, J n c ys → Fin ys (led c)) : LCt.CompRestT prog w A h₀ L m env ct elt x scope cl s S P Fin n 0 [] (led c₀) := by
  have key : ∀ (j i : Nat) (c : σ) (ys : List Value), i + j = n → J i c ys → LCt.CompRestT prog w A h₀ L m env ct elt x scope cl s S P Fin j i ys (led c) := by
    intro j
    induction j with
    | zero => intro i c ys hi hy; obtain rfl : i = n := by omega
              exact LCt.CompRestT.zero (fin c ys hy)
    | succ j ih =>
      intro i c ys hi hy
      refine LCt.CompRestT.succ ?_
      intro v I oI C oC D m₂ h tk E' hv hC hx F N off ne
      refine wpAny_mono (turn i v c ys I oI C oC D m₂ h tk E' (by omega) hv hy hC hx F N off ne) (fun ok s₂ hq => ?_) fun _ _ e => e
      cases ok
      · rw [if_neg (by decide)] at hq ⊢
        obtain ⟨h', tk', nw, e, F', N', off', hS, c', rfl, hJ⟩ := hq
        exact ⟨h', tk', _, e, F', N', off', hS, ih (i + 1) c' _ (by omega) hJ⟩
      · rw [if_pos rfl] at hq ⊢
        refine wpAny_mono hq (fun y s₂ hq => ?_) fun _ _ e => e
        obtain ⟨h', tk', nw, e, F', N', off', hS, c', rfl, hJ⟩ := hq
        exact ⟨h', tk', _, e, F', N', off', hS, ih (i + 1) c' _ (by omega) hJ⟩
  exact key n 0 c₀ [] (by omega) hj
end

section
variable {prog : Program} {w : World} {A : Around} {E : Value → Shared → Prop} {s : Shared} {h₀ : Heap} {L : Addr} {m : Str → Option Value} {env : Env} {elt ct iter : Expr} {x : Str} {scope : Scope} {cl : List (Str × Addr)} {n : Nat} {σ : Type} {news : List (Addr × Obj)} {Fin : Shared → List Value → List (Addr × Obj) → Prop}
abbrev AnySrc : List (Addr × Obj) → Prop := fun _ => True
theorem itok_bytes {b : Array UInt8} {tb : Tok} (hh : A.handled = none) (hsz : b.size ≤ 16777216) (F : Fr h₀ L s.heap m) (N : News h₀ L s.heap news) :
    ItOk prog w A h₀ L m { s with heap := s.heap.push { cls := .type "bytes_iterator", data := .fields #[.bytes b tb, .int 0 0] } } (.ref s.heap.objs.size) b.size (fun i v => ∃ c u, b[i]? = some c ∧ v = .int (c.toNat : Int) u) AnySrc news :=
  ⟨s.heap.objs.size, _, _, rfl, KBw.walks hh _ b tb, by rw [sizeLine_eq]; exact hsz, fun i h st => by obtain ⟨o, e, _⟩ := st; exact ⟨o, e⟩,
    fun i h h' o nw st e e' _ _ _ => by obtain ⟨o', q, r⟩ := st; rw [e] at q; cases q; exact ⟨o, e', r⟩,
    ⟨_, Heap.get?_push_size _ rfl, rfl, rfl⟩, fun b' hb => by rw [List.mem_singleton.mp hb]; show s.heap.objs.size < (s.heap.push _).objs.size; rw [Heap.size_push]; exact Nat.lt_succ_self _,
    F.keeps fun _ _ e => Heap.get?_push_of_some _ e, N.grown fun _ _ e => Heap.get?_push_of_some _ e, Nat.ne_of_lt F.ns.lt, next_is_new F, fun p hp => Nat.ne_of_lt (Heap.lt_size (N p hp).1), trivial⟩
theorem itok_range {a₀ b₀ c₁ : Int} {n : Nat} (hh : A.handled = none) (hsz : n ≤ 16777216) (hn : Builtin.Range.rangeSize a₀ b₀ c₁ = (n : Int)) (F : Fr h₀ L s.heap m) (N : News h₀ L s.heap news) :
    ItOk prog w A h₀ L m { s with heap := s.heap.push { cls := .type "range_iterator", data := .fields #[rawInt a₀, rawInt (Builtin.Range.rangeSize a₀ b₀ c₁), rawInt c₁] } } (.ref s.heap.objs.size) n (fun i v => i < n ∧ ∃ t, v = .int (a₀ + i * c₁) t) AnySrc news :=
  ⟨s.heap.objs.size, _, fun i h => IsRangeIter h s.heap.objs.size (a₀ + (i : Nat) * c₁) ((n : Int) - (i : Nat)) c₁, rfl, (Walks.range hh _ a₀ c₁ n).bound, by rw [sizeLine_eq]; exact hsz, fun i h st => ⟨_, st⟩,
    fun i h h' o nw st e e' _ _ _ => by have st' : h.get? _ = some _ := st; show h'.get? _ = some _; rw [e', ← e]; exact st',
    (by show IsRangeIter _ _ _ _ _; rw [hn]; simpa using Heap.get?_push_size _ rfl), fun b' hb => by rw [List.mem_singleton.mp hb]; show s.heap.objs.size < (s.heap.push _).objs.size; rw [Heap.size_push]; exact Nat.lt_succ_self _,
    F.keeps fun _ _ e => Heap.get?_push_of_some _ e, N.grown fun _ _ e => Heap.get?_push_of_some _ e, Nat.ne_of_lt F.ns.lt, next_is_new F, fun p hp => Nat.ne_of_lt (Heap.lt_size (N p hp).1), trivial⟩
theorem itok_list {ax : Addr} {its : Array Value} (hh : A.handled = none) (hsz : its.size ≤ 16777216) (hS : LCg.SrcAt h₀ ax its news) (F : Fr h₀ L s.heap m) (N : News h₀ L s.heap news) :
    ItOk prog w A h₀ L m { s with heap := s.heap.push { cls := .type "list_iterator", data := .fields #[.ref ax, .int 0 0] } } (.ref s.heap.objs.size) its.size (fun i v => its[i]? = some v) (LCg.SrcAt h₀ ax its) news := by
  have hl := hS.list F.keep N
  have hlt : ax < s.heap.objs.size := by obtain ⟨_, e, _⟩ := hl; exact Heap.lt_size e
  refine ⟨s.heap.objs.size, _, _, rfl, Walks.list hh _ ax (Nat.ne_of_lt hlt) its, by rw [sizeLine_eq]; exact hsz, fun i h st => by obtain ⟨o, e, _⟩ := st.1; exact ⟨o, e⟩, LCg.list_st, ⟨⟨_, Heap.get?_push_size _ rfl, rfl, rfl⟩, hl.push _⟩, fun b hb => ?_,
    F.keeps fun _ _ e => Heap.get?_push_of_some _ e, N.grown fun _ _ e => Heap.get?_push_of_some _ e, Nat.ne_of_lt F.ns.lt, next_is_new F, fun p hp => Nat.ne_of_lt (Heap.lt_size (N p hp).1), hS⟩
  show b < (s.heap.push _).objs.size
  rw [Heap.size_push]
  rcases List.mem_cons.mp hb with rfl | hb
  · exact Nat.lt_succ_self _
  · rw [List.mem_singleton.mp hb]; exact Nat.lt_succ_of_lt hlt

theorem cpU_bytes {b : Array UInt8} {tb : Tok} {ks : List Int} (led : σ → List (Addr × Obj)) (J : Nat → σ → List Value → Prop) (c₀ : σ)
    (hb : KBw.bInts b = ks) (hh : A.handled = none) (hsz : ks.length ≤ 16777216) (F : Fr h₀ L s.heap m) (N : News h₀ L s.heap (led c₀)) (hj : J 0 c₀ [])
    (turn : Hold (∀ (i : Nat) (k : Int) (t : Tok) (c : σ) ys I oI C oC D m₂ h tk (E' : Value → Shared → Prop), ks[i]? = some k → 0 ≤ k → k < 256 → J i c ys → LCg.NsObj oC m₂ → m₂ x = some (.int k t) → Fr h₀ L h m → News h₀ L h ((I, oI) :: (C, oC) :: (D, LCg.lst ys) :: led c) → LCg.Off3 I C D (led c) → ((@Ne Nat I C) ∧ (@Ne Nat I D) ∧ (@Ne Nat C D)) →
      wpAny (model prog w) A (eval elt (compEnvC scope cl C env)) (LCg.CompEnd h₀ L m { s with heap := h, toks := tk } I oI C oC D (LCg.lst ys) AnySrc (fun y news' => ∃ c', news' = led c' ∧ J (i + 1) c' (ys ++ [y]))) E' { s with heap := h, toks := tk }))
    (fin : Hold (∀ g c ys, J ks.length c ys → Fin { s with heap := g } ys (led c))) :
    wpAny (model prog w) A (pyIter (.bytes b tb)) (CpU prog w A h₀ L m env elt x scope cl Fin) E s := by
  refine KBw.pyIter_bytes ⟨_, _, _, _, itok_bytes hh (by rw [← KBw.ints_length b, hb]; exact hsz) F N, restU led J c₀ hj ?_ ?_⟩
  · rintro i v c ys I oI C oC D m₂ h tk E' hi ⟨n, t, hn, rfl⟩ hJ hC hx F₁ N₁ off ne
    have hn' := KBw.ints_get hn
    rw [hb] at hn'
    have hr := KBw.ints_in (b := b) (k := (n.toNat : Int)) (by rw [hb]; exact List.mem_of_getElem? hn')
    exact turn i _ t c ys I oI C oC D m₂ h tk E' hn' hr.1 hr.2 hJ hC hx F₁ N₁ off ne
  · intro c ys hJ
    rw [← KBw.ints_length b, hb] at hJ
    exact fin _ c ys hJ
theorem cpU_range {r : Addr} {a₀ b₀ c₁ : Int} {t₀ u₀ v₀ : Tok} {n : Nat} (led : σ → List (Addr × Obj)) (J : Nat → σ → List Value → Prop) (c₀ : σ)
    (hh : A.handled = none) (hr : IsRange s.heap r a₀ b₀ c₁ t₀ u₀ v₀) (hsmall : Builtin.Range.small a₀ b₀ c₁ = true) (hn : Builtin.Range.rangeSize a₀ b₀ c₁ = (n : Int)) (hsz : n ≤ 16777216) (F : Fr h₀ L s.heap m) (N : News h₀ L s.heap (led c₀)) (hj : J 0 c₀ [])
    (turn : Hold (∀ (i : Nat) (k : Int) (t : Tok) (c : σ) ys I oI C oC D m₂ h tk (E' : Value → Shared → Prop), i < n → k = a₀ + (i : Int) * c₁ → J i c ys → LCg.NsObj oC m₂ → m₂ x = some (.int k t) → Fr h₀ L h m → News h₀ L h ((I, oI) :: (C, oC) :: (D, LCg.lst ys) :: led c) → LCg.Off3 I C D (led c) → ((@Ne Nat I C) ∧ (@Ne Nat I D) ∧ (@Ne Nat C D)) →
      wpAny (model prog w) A (eval elt (compEnvC scope cl C env)) (LCg.CompEnd h₀ L m { s with heap := h, toks := tk } I oI C oC D (LCg.lst ys) AnySrc (fun y news' => ∃ c', news' = led c' ∧ J (i + 1) c' (ys ++ [y]))) E' { s with heap := h, toks := tk }))
    (fin : Hold (∀ g c ys, J n c ys → Fin { s with heap := g } ys (led c))) :
    wpAny (model prog w) A (pyIter (.ref r)) (CpU prog w A h₀ L m env elt x scope cl Fin) E s := by
  refine wpAny_pyIter_range hr hsmall ⟨_, _, _, _, itok_range hh hsz hn F N, restU led J c₀ hj ?_ ?_⟩
  · rintro i v c ys I oI C oC D m₂ h tk E' hi ⟨_, t, rfl⟩ hJ hC hx F₁ N₁ off ne
    exact turn i _ t c ys I oI C oC D m₂ h tk E' hi rfl hJ hC hx F₁ N₁ off ne
  · exact fun c ys hJ => fin _ c ys hJ
theorem cpU_list {ax : Addr} {its : Array Value} (led : σ → List (Addr × Obj)) (J : Nat → σ → List Value → Prop) (c₀ : σ)
    (hh : A.handled = none) (hsz : its.size ≤ 16777216) (hS : LCg.SrcAt h₀ ax its (led c₀)) (F : Fr h₀ L s.heap m) (N : News h₀ L s.heap (led c₀)) (hj : J 0 c₀ [])
    (turn : Hold (∀ (i : Nat) (v : Value) (c : σ) ys I oI C oC D m₂ h tk (E' : Value → Shared → Prop), its[i]? = some v → J i c ys → LCg.NsObj oC m₂ → m₂ x = some (v) → Fr h₀ L h m → News h₀ L h ((I, oI) :: (C, oC) :: (D, LCg.lst ys) :: led c) → LCg.Off3 I C D (led c) → ((@Ne Nat I C) ∧ (@Ne Nat I D) ∧ (@Ne Nat C D)) →
      wpAny (model prog w) A (eval elt (compEnvC scope cl C env)) (LCg.CompEnd h₀ L m { s with heap := h, toks := tk } I oI C oC D (LCg.lst ys) (LCg.SrcAt h₀ ax its) (fun y news' => ∃ c', news' = led c' ∧ J (i + 1) c' (ys ++ [y]))) E' { s with heap := h, toks := tk }))
    (fin : Hold (∀ g c ys, J its.size c ys → Fin { s with heap := g } ys (led c))) :
    wpAny (model prog w) A (pyIter (.ref ax)) (CpU prog w A h₀ L m env elt x scope cl Fin) E s := by
  refine wpAny_pyIter_list (hS.list F.keep N) ⟨_, _, _, _, itok_list hh hsz hS F N, restU led J c₀ hj ?_ ?_⟩
  · rintro i v c ys I oI C oC D m₂ h tk E' hi hv hJ hC hx F₁ N₁ off ne
    exact turn i v c ys I oI C oC D m₂ h tk E' hv hJ hC hx F₁ N₁ off ne
  · exact fun c ys hJ => fin _ c ys hJ
theorem cpU_str {z : Str} {tz : Tok} (led : σ → List (Addr × Obj)) (J : Nat → σ → List Value → Prop) (c₀ : σ)
    (hh : A.handled = none) (hsz : z.cps.size ≤ 16777216) (F : Fr h₀ L s.heap m) (N : News h₀ L s.heap (led c₀)) (hj : J 0 c₀ [])
    (turn : Hold (∀ (i : Nat) (k : Nat) (t : Tok) (c : σ) ys I oI C oC D m₂ h tk (E' : Value → Shared → Prop), z.cps[i]? = some k → J i c ys → LCg.NsObj oC m₂ → m₂ x = some (.str ⟨#[k]⟩ t) → Fr h₀ L h m → News h₀ L h ((I, oI) :: (C, oC) :: (D, LCg.lst ys) :: led c) → LCg.Off3 I C D (led c) → ((@Ne Nat I C) ∧ (@Ne Nat I D) ∧ (@Ne Nat C D)) →
      wpAny (model prog w) A (eval elt (compEnvC scope cl C env)) (LCg.CompEnd h₀ L m { s with heap := h, toks := tk } I oI C oC D (LCg.lst ys) AnySrc (fun y news' => ∃ c', news' = led c' ∧ J (i + 1) c' (ys ++ [y]))) E' { s with heap := h, toks := tk }))
    (fin : Hold (∀ g c ys, J z.cps.size c ys → Fin { s with heap := g } ys (led c))) :
    wpAny (model prog w) A (pyIter (.str z tz)) (CpU prog w A h₀ L m env elt x scope cl Fin) E s := by
  have up : ∀ o b o', s.heap.get? b = some o' → (s.heap.push o).get? b = some o' := fun o b o' e => Heap.get?_push_of_some _ e
  have lt : ∀ o : Obj, ∀ b ∈ [s.heap.objs.size], b < (s.heap.push o).objs.size := fun o b hb => by rw [List.mem_singleton.mp hb, Heap.size_push]; exact Nat.lt_succ_self _
  have R : ∀ g, LCg.CompRest prog w A h₀ L m env elt x scope cl { s with heap := g } AnySrc (SignAt z) (Fin { s with heap := g }) z.cps.size 0 [] (led c₀) := fun g => restU led J c₀ hj (by
    rintro i v c ys I oI C oC D m₂ h tk E' hi ⟨k, t, hk, rfl⟩ hJ hC hx F₁ N₁ off ne
    exact turn i k t c ys I oI C oC D m₂ h tk E' hk hJ hC hx F₁ N₁ off ne) (fun c ys hJ => fin g c ys hJ)
  cases ha : z.cps.all (· < 128)
  · refine wpAny_pyIter_wide ha ⟨z.cps.size, SignAt z, AnySrc, led c₀, ⟨s.heap.objs.size, _, _, rfl, Walks.strWide hh _ z tz, by rw [sizeLine_eq]; exact hsz, fun i h st => by obtain ⟨o, e, _⟩ := st; exact ⟨o, e⟩,
      fun i h h' o nw st e e' _ _ _ => by obtain ⟨o', q, r⟩ := st; rw [e] at q; cases q; exact ⟨o, e', r⟩, ⟨_, Heap.get?_push_size _ rfl, rfl, rfl⟩, lt _,
      F.keeps (up _), N.grown (up _), Nat.ne_of_lt F.ns.lt, next_is_new F, fun p hp => Nat.ne_of_lt (Heap.lt_size (N p hp).1), trivial⟩, R _⟩
  · refine wpAny_pyIter_ascii ha ⟨z.cps.size, SignAt z, AnySrc, led c₀, ⟨s.heap.objs.size, _, _, rfl, Walks.strAscii hh _ z tz, by rw [sizeLine_eq]; exact hsz, fun i h st => by obtain ⟨o, e, _⟩ := st; exact ⟨o, e⟩,
      fun i h h' o nw st e e' _ _ _ => by obtain ⟨o', q, r⟩ := st; rw [e] at q; cases q; exact ⟨o, e', r⟩, ⟨_, Heap.get?_push_size _ rfl, rfl, rfl⟩, lt _,
      F.keeps (up _), N.grown (up _), Nat.ne_of_lt F.ns.lt, next_is_new F, fun p hp => Nat.ne_of_lt (Heap.lt_size (N p hp).1), trivial⟩, R _⟩
theorem cpT_bytes {b : Array UInt8} {tb : Tok} {ks : List Int} (led : σ → List (Addr × Obj)) (J : Nat → σ → List Value → Prop) (c₀ : σ)
    (hb : KBw.bInts b = ks) (hh : A.handled = none) (hsz : ks.length ≤ 16777216) (F : Fr h₀ L s.heap m) (N : News h₀ L s.heap (led c₀)) (hj : J 0 c₀ [])
    (turn : Hold (∀ (i : Nat) (k : Int) (t : Tok) (c : σ) ys I oI C oC D m₂ h tk (E' : Value → Shared → Prop), ks[i]? = some k → 0 ≤ k → k < 256 → J i c ys → LCg.NsObj oC m₂ → m₂ x = some (.int k t) → Fr h₀ L h m → News h₀ L h ((I, oI) :: (C, oC) :: (D, LCg.lst ys) :: led c) → LCg.Off3 I C D (led c) → ((@Ne Nat I C) ∧ (@Ne Nat I D) ∧ (@Ne Nat C D)) →
      wpAny (model prog w) A (isTrue ct (compEnvC scope cl C env) (eval ct (compEnvC scope cl C env))) (fun ok s' => if ok = true then
        wpAny (model prog w) A (eval elt (compEnvC scope cl C env)) (LCg.CompEnd h₀ L m { s with heap := h, toks := tk } I oI C oC D (LCg.lst ys) AnySrc (fun y news' => ∃ c', news' = led c' ∧ J (i + 1) c' (ys ++ [y]))) E' s'
        else LCg.CompEnd h₀ L m { s with heap := h, toks := tk } I oI C oC D (LCg.lst ys) AnySrc (fun _ news' => ∃ c', news' = led c' ∧ J (i + 1) c' ys) Value.none s') E' { s with heap := h, toks := tk }))
    (fin : Hold (∀ g c ys, J ks.length c ys → Fin { s with heap := g } ys (led c))) :
    wpAny (model prog w) A (pyIter (.bytes b tb)) (CpT prog w A h₀ L m env ct elt x scope cl Fin) E s := by
  refine KBw.pyIter_bytes ⟨_, _, _, _, itok_bytes hh (by rw [← KBw.ints_length b, hb]; exact hsz) F N, restT led J c₀ hj ?_ ?_⟩
  · rintro i v c ys I oI C oC D m₂ h tk E' hi ⟨n, t, hn, rfl⟩ hJ hC hx F₁ N₁ off ne
    have hn' := KBw.ints_get hn
    rw [hb] at hn'
    have hr := KBw.ints_in (b := b) (k := (n.toNat : Int)) (by rw [hb]; exact List.mem_of_getElem? hn')
    exact turn i _ t c ys I oI C oC D m₂ h tk E' hn' hr.1 hr.2 hJ hC hx F₁ N₁ off ne
  · intro c ys hJ
    rw [← KBw.ints_length b, hb] at hJ
    exact fin _ c ys hJ
theorem cpT_range {r : Addr} {a₀ b₀ c₁ : Int} {t₀ u₀ v₀ : Tok} {n : Nat} (led : σ → List (Addr × Obj)) (J : Nat → σ → List Value → Prop) (c₀ : σ)
    (hh : A.handled = none) (hr : IsRange s.heap r a₀ b₀ c₁ t₀ u₀ v₀) (hsmall : Builtin.Range.small a₀ b₀ c₁ = true) (hn : Builtin.Range.rangeSize a₀ b₀ c₁ = (n : Int)) (hsz : n ≤ 16777216) (F : Fr h₀ L s.heap m) (N : News h₀ L s.heap (led c₀)) (hj : J 0 c₀ [])
    (turn : Hold (∀ (i : Nat) (k : Int) (t : Tok) (c : σ) ys I oI C oC D m₂ h tk (E' : Value → Shared → Prop), i < n → k = a₀ + (i : Int) * c₁ → J i c ys → LCg.NsObj oC m₂ → m₂ x = some (.int k t) → Fr h₀ L h m → News h₀ L h ((I, oI) :: (C, oC) :: (D, LCg.lst ys) :: led c) → LCg.Off3 I C D (led c) → ((@Ne Nat I C) ∧ (@Ne Nat I D) ∧ (@Ne Nat C D)) →
      wpAny (model prog w) A (isTrue ct (compEnvC scope cl C env) (eval ct (compEnvC scope cl C env))) (fun ok s' => if ok = true then
        wpAny (model prog w) A (eval elt (compEnvC scope cl C env)) (LCg.CompEnd h₀ L m { s with heap := h, toks := tk } I oI C oC D (LCg.lst ys) AnySrc (fun y news' => ∃ c', news' = led c' ∧ J (i + 1) c' (ys ++ [y]))) E' s'
        else LCg.CompEnd h₀ L m { s with heap := h, toks := tk } I oI C oC D (LCg.lst ys) AnySrc (fun _ news' => ∃ c', news' = led c' ∧ J (i + 1) c' ys) Value.none s') E' { s with heap := h, toks := tk }))
    (fin : Hold (∀ g c ys, J n c ys → Fin { s with heap := g } ys (led c))) :
    wpAny (model prog w) A (pyIter (.ref r)) (CpT prog w A h₀ L m env ct elt x scope cl Fin) E s := by
  refine wpAny_pyIter_range hr hsmall ⟨_, _, _, _, itok_range hh hsz hn F N, restT led J c₀ hj ?_ ?_⟩
  · rintro i v c ys I oI C oC D m₂ h tk E' hi ⟨_, t, rfl⟩ hJ hC hx F₁ N₁ off ne
    exact turn i _ t c ys I oI C oC D m₂ h tk E' hi rfl hJ hC hx F₁ N₁ off ne
  · exact fun c ys hJ => fin _ c ys hJ
theorem cpT_list {ax : Addr} {its : Array Value} (led : σ → List (Addr × Obj)) (J : Nat → σ → List Value → Prop) (c₀ : σ)
    (hh : A.handled = none) (hsz : its.size ≤ 16777216) (hS : LCg.SrcAt h₀ ax its (led c₀)) (F : Fr h₀ L s.heap m) (N : News h₀ L s.heap (led c₀)) (hj : J 0 c₀ [])
    (turn : Hold (∀ (i : Nat) (v : Value) (c : σ) ys I oI C oC D m₂ h tk (E' : Value → Shared → Prop), its[i]? = some v → J i c ys → LCg.NsObj oC m₂ → m₂ x = some (v) → Fr h₀ L h m → News h₀ L h ((I, oI) :: (C, oC) :: (D, LCg.lst ys) :: led c) → LCg.Off3 I C D (led c) → ((@Ne Nat I C) ∧ (@Ne Nat I D) ∧ (@Ne Nat C D)) →
      wpAny (model prog w) A (isTrue ct (compEnvC scope cl C env) (eval ct (compEnvC scope cl C env))) (fun ok s' => if ok = true then
        wpAny (model prog w) A (eval elt (compEnvC scope cl C env)) (LCg.CompEnd h₀ L m { s with heap := h, toks := tk } I oI C oC D (LCg.lst ys) (LCg.SrcAt h₀ ax its) (fun y news' => ∃ c', news' = led c' ∧ J (i + 1) c' (ys ++ [y]))) E' s'
        else LCg.CompEnd h₀ L m { s with heap := h, toks := tk } I oI C oC D (LCg.lst ys) (LCg.SrcAt h₀ ax its) (fun _ news' => ∃ c', news' = led c' ∧ J (i + 1) c' ys) Value.none s') E' { s with heap := h, toks := tk }))
    (fin : Hold (∀ g c ys, J its.size c ys → Fin { s with heap := g } ys (led c))) :
    wpAny (model prog w) A (pyIter (.ref ax)) (CpT prog w A h₀ L m env ct elt x scope cl Fin) E s := by
  refine wpAny_pyIter_list (hS.list F.keep N) ⟨_, _, _, _, itok_list hh hsz hS F N, restT led J c₀ hj ?_ ?_⟩
  · rintro i v c ys I oI C oC D m₂ h tk E' hi hv hJ hC hx F₁ N₁ off ne
    exact turn i v c ys I oI C oC D m₂ h tk E' hv hJ hC hx F₁ N₁ off ne
  · exact fun c ys hJ => fin _ c ys hJ
theorem cpT_str {z : Str} {tz : Tok} (led : σ → List (Addr × Obj)) (J : Nat → σ → List Value → Prop) (c₀ : σ)
    (hh : A.handled = none) (hsz : z.cps.size ≤ 16777216) (F : Fr h₀ L s.heap m) (N : News h₀ L s.heap (led c₀)) (hj : J 0 c₀ [])
    (turn : Hold (∀ (i : Nat) (k : Nat) (t : Tok) (c : σ) ys I oI C oC D m₂ h tk (E' : Value → Shared → Prop), z.cps[i]? = some k → J i c ys → LCg.NsObj oC m₂ → m₂ x = some (.str ⟨#[k]⟩ t) → Fr h₀ L h m → News h₀ L h ((I, oI) :: (C, oC) :: (D, LCg.lst ys) :: led c) → LCg.Off3 I C D (led c) → ((@Ne Nat I C) ∧ (@Ne Nat I D) ∧ (@Ne Nat C D)) →
      wpAny (model prog w) A (isTrue ct (compEnvC scope cl C env) (eval ct (compEnvC scope cl C env))) (fun ok s' => if ok = true then
        wpAny (model prog w) A (eval elt (compEnvC scope cl C env)) (LCg.CompEnd h₀ L m { s with heap := h, toks := tk } I oI C oC D (LCg.lst ys) AnySrc (fun y news' => ∃ c', news' = led c' ∧ J (i + 1) c' (ys ++ [y]))) E' s'
        else LCg.CompEnd h₀ L m { s with heap := h, toks := tk } I oI C oC D (LCg.lst ys) AnySrc (fun _ news' => ∃ c', news' = led c' ∧ J (i + 1) c' ys) Value.none s') E' { s with heap := h, toks := tk }))
    (fin : Hold (∀ g c ys, J z.cps.size c ys → Fin { s with heap := g } ys (led c))) :
    wpAny (model prog w) A (pyIter (.str z tz)) (CpT prog w A h₀ L m env ct elt x scope cl Fin) E s := by
  have up : ∀ o b o', s.heap.get? b = some o' → (s.heap.push o).get? b = some o' := fun o b o' e => Heap.get?_push_of_some _ e
  have lt : ∀ o : Obj, ∀ b ∈ [s.heap.objs.size], b < (s.heap.push o).objs.size := fun o b hb => by rw [List.mem_singleton.mp hb, Heap.size_push]; exact Nat.lt_succ_self _
  have R : ∀ g, LCt.CompRestT prog w A h₀ L m env ct elt x scope cl { s with heap := g } AnySrc (SignAt z) (Fin { s with heap := g }) z.cps.size 0 [] (led c₀) := fun g => restT led J c₀ hj (by
    rintro i v c ys I oI C oC D m₂ h tk E' hi ⟨k, t, hk, rfl⟩ hJ hC hx F₁ N₁ off ne
    exact turn i k t c ys I oI C oC D m₂ h tk E' hk hJ hC hx F₁ N₁ off ne) (fun c ys hJ => fin g c ys hJ)
  cases ha : z.cps.all (· < 128)
  · refine wpAny_pyIter_wide ha ⟨z.cps.size, SignAt z, AnySrc, led c₀, ⟨s.heap.objs.size, _, _, rfl, Walks.strWide hh _ z tz, by rw [sizeLine_eq]; exact hsz, fun i h st => by obtain ⟨o, e, _⟩ := st; exact ⟨o, e⟩,
      fun i h h' o nw st e e' _ _ _ => by obtain ⟨o', q, r⟩ := st; rw [e] at q; cases q; exact ⟨o, e', r⟩, ⟨_, Heap.get?_push_size _ rfl, rfl, rfl⟩, lt _,
      F.keeps (up _), N.grown (up _), Nat.ne_of_lt F.ns.lt, next_is_new F, fun p hp => Nat.ne_of_lt (Heap.lt_size (N p hp).1), trivial⟩, R _⟩
  · refine wpAny_pyIter_ascii ha ⟨z.cps.size, SignAt z, AnySrc, led c₀, ⟨s.heap.objs.size, _, _, rfl, Walks.strAscii hh _ z tz, by rw [sizeLine_eq]; exact hsz, fun i h st => by obtain ⟨o, e, _⟩ := st; exact ⟨o, e⟩,
      fun i h h' o nw st e e' _ _ _ => by obtain ⟨o', q, r⟩ := st; rw [e] at q; cases q; exact ⟨o, e', r⟩, ⟨_, Heap.get?_push_size _ rfl, rfl, rfl⟩, lt _,
      F.keeps (up _), N.grown (up _), Nat.ne_of_lt F.ns.lt, next_is_new F, fun p hp => Nat.ne_of_lt (Heap.lt_size (N p hp).1), trivial⟩, R _⟩
end

/-- a mark in the context: comprehensions are walked by comp_U and its like -/
def MyComp : Prop := True
theorem all_ne_up {news : List (Addr × Obj)} {d e : Nat} (h : ∀ p ∈ news, p.1 < d) (hd : @LE.le Nat _ d e) : ∀ p ∈ news, p.1 ≠ e := fun p hp q => absurd (h p hp) (by have : @LE.le Nat _ d p.1 := q ▸ hd; exact Nat.not_lt.mpr this)
theorem layR51 : True := by
  k_with "my k_all" => ((refine' all_ne_up ?kaZ9 ?kbZ9; (case kaZ9 => assumption); (case kbZ9 => (first | exact Nat.le_refl _ | exact Nat.le_succ _ | exact Nat.le_succ_of_le (Nat.le_succ _) | omega))))
  k_with "my eval ListComp" => ((k_here; (with_reducible rename MyComp => hMC'q); k_dflt (first
  | (refine' comp_U (by k_asm) (by with_unfolding_all rfl) (by decide) (by rfl) (by decide) (by rfl) ?_)
  | (refine' comp_T (by k_asm) (by with_unfolding_all rfl) (by decide) (by rfl) (by decide) (by rfl) ?_)); (try k_fold)))
  k_with "my exec Assign cons ListComp" => ((k_here; (with_reducible rename MyComp => hMC'q); k_dflt (first
  | (refine' comp_AU (by k_asm) (by rfl) (by with_unfolding_all rfl) (by with_unfolding_all rfl) (by decide) (by rfl) (by decide) (by rfl) (by rfl) (by rfl) ?_)
  | (refine' comp_AT (by k_asm) (by rfl) (by with_unfolding_all rfl) (by with_unfolding_all rfl) (by decide) (by rfl) (by decide) (by rfl) (by rfl) (by rfl) ?_)); (try k_fold)))
  exact True.intro

def und (c : Int) : Int := if c = 95 then 32 else c
theorem in_map_und {ks : List Int} (h : KBa.In ks) : KBa.In (ks.map und) := by
  intro n hn
  obtain ⟨a, ha, rfl⟩ := List.mem_map.mp hn
  have := h a ha
  unfold und; split <;> omega
theorem bints_in {b : Array UInt8} {ks : List Int} (hb : KBw.bInts b = ks) : KBa.In ks := fun n hn => KBw.ints_in (b := b) (by rw [hb]; exact hn)
theorem word_q_decoded_at (w : World) (news : List (Addr × Obj)) (b : Array UInt8) (ks : List Int) (t : Tok) (hb : KBw.bInts b = ks) (hn : ks.length ≤ 4096) : CG w 4 250 [.bytes b t] news (RB news (unq (ks.map und))) := by
  w_top off
  intro mean mg mb dp un gd cn cs a ccd cl outer A₀ base h₀ L m s Q E B F X N T hk hd hu hret
  refine wpAny_call ?_
  k_dflt cell_enter
  (try (refine let_AE ?_; intro A9q e9q)); (try ((with_reducible rename Fr _ _ _ _ => F9q); refine let_m F9q ?_; clear F9q; intro m9q F'))
  have hMC : MyComp := True.intro
  have hmkP41 : OwnW := True.intro
  k_with "pyIter bytes" => (guard_hyp hmkP41; k_dflt (refine' cpU_bytes (σ := Unit) (fun _ => news) (fun i _ ys => IntsAre ys ((ks.take i).map und)) () hb rfl (by omega) (by k_asm) (by k_asm) .nil ?_ ?_))
  (try k_fold)
  k_steps
  · intro i k t c ys I oI C oC D m₂ h1 tk E' hi h0 h1 hJ hC hx F' N' off ne
    (try k_fold)
    k_steps
    all_goals
      refine' LCg.CompEnd.intro ?lpF ?lpN (news) ?lpa ?lpo ?lps ⟨(), rfl, ?_⟩
      (case lpF => k_asm)
      (case lpN => k_asm)
      (case lpa => kcf_all)
      (case lpo => first | assumption | (simp only [LCg.Off3, and_true]; done) | (simp only [LCg.Off3, and_true]; assumption))
      (case lps => first | trivial | assumption | lcg_src)
      rw [List.take_add_one, hi, Option.toList_some, List.map_append, List.map_cons, List.map_nil]
    · rename (k = 95) => e1; subst e1; exact ints_snoc' hJ _ _
    · rename (k ≠ 95) => e1; rw [show und k = k from if_neg e1]; exact ints_snoc' hJ _ _
  · intro g c ys hJ
    rw [List.take_length] at hJ
    have hl : (ks.map und).length ≤ 4096 := by rw [List.length_map]; exact hn
    (try k_fold)
    k_steps
    (k_dflt (refine' KBa.make_K ?kbaF ?kbaN ?kbah ?kbal ?kbai ?_ ?kban ?_; (case kbaF => k_asm); (case kbaN => k_asm); (case kbah => rfl); (case kbal => kba_isList); (case kbai => kba_listInts); (case kban => kba_size)))
    · exact in_map_und (bints_in hb)
    · intro h' t' k' F' N' hin
      have hk := KBa.ints_make hin
      (try k_fold)
      k_steps
      refine' gBytes (Q := Q) hret ?_ ?cF ?cN
      (case cF => k_asm)
      (case cN => first | k_asm | (refine' cb_drop ?cbN ?cbS; (case cbN => assumption); (case cbS => kcj_all)))
      assumption
theorem layP41 : True := by
  k_with "my call ref" => ((k_here; (with_reducible show wpAny _ _ (PySem.call (Value.ref 250) _) _ _ _); k_dflt (refine' called (word_q_decoded_at _ _ _ _ _ (by kba_ints) (by omega)) ?kBZ9 ?kFZ9 ?kXZ9 ?kNZ9 ?kTZ9 ?kKZ9 ?kDZ9 ?kUZ9 ?_; (case kBZ9 | kFZ9 | kXZ9 | kNZ9 | kTZ9 => k_asm); (case kKZ9 => first | exact rfl | assumption); (case kDZ9 => ktr_room); (case kUZ9 => ktr_units)); intro b'q t'q h'q tk'q kbEq9 F'q N'q))
  exact True.intro

theorem and63 {prog : Program} {w : World} {A : Around} {E : Value → Shared → Prop} {s : Shared} {x : Int} {t u : Tok} {Q : Value → Shared → Prop} (h : Q (.int (x % 64) s.toks) { s with toks := s.toks + 1 }) : wpAny (model prog w) A (binaryOp .BitAnd (.int x t) (.int 63 u)) Q E s :=
  and_int (by rw [show (63 : Int) = 2 ^ 6 - 1 by decide, kbt_mask]; exact h)
theorem and255 {prog : Program} {w : World} {A : Around} {E : Value → Shared → Prop} {s : Shared} {x : Int} {t u : Tok} {Q : Value → Shared → Prop} (h : Q (.int (x % 256) s.toks) { s with toks := s.toks + 1 }) : wpAny (model prog w) A (binaryOp .BitAnd (.int x t) (.int 255 u)) Q E s :=
  and_int (by rw [show (255 : Int) = 2 ^ 8 - 1 by decide, kbt_mask]; exact h)
theorem and15 {prog : Program} {w : World} {A : Around} {E : Value → Shared → Prop} {s : Shared} {x : Int} {t u : Tok} {Q : Value → Shared → Prop} (h : Q (.int (x % 16) s.toks) { s with toks := s.toks + 1 }) : wpAny (model prog w) A (binaryOp .BitAnd (.int x t) (.int 15 u)) Q E s :=
  and_int (by rw [show (15 : Int) = 2 ^ 4 - 1 by decide, kbt_mask]; exact h)
/-- a new list of ints comes back -/
abbrev RLs (news : List (Addr × Obj)) (ns : List Int) : Cont := fun h₀ L m s Q _ => ∀ (l : Addr) (vs : List Value) (n : Nat) (h' : Heap) (tk' : Nat), IntsAre vs ns → Fr h₀ L h' m → News h₀ L h' ((l, listOf vs.toArray n) :: news) → LCg.Off1 l news → Q (.ref l) { s with heap := h', toks := tk' }
theorem gList {h₀ h' : Heap} {L l : Addr} {m : Str → Option Value} {news : List (Addr × Obj)} {s : Shared} {Q E : Value → Shared → Prop} {vs : List Value} {ns : List Int} {n tk' : Nat} (hret : RLs news ns h₀ L m s Q E) (e : IntsAre vs ns) (F : Fr h₀ L h' m) (N : News h₀ L h' ((l, listOf vs.toArray n) :: news)) (o : LCg.Off1 l news) : Q (.ref l) { s with heap := h', toks := tk' } := hret l vs n h' tk' e F N o
theorem off1_lt {l : Addr} : ∀ {news : List (Addr × Obj)}, (∀ p ∈ news, p.1 < l) → LCg.Off1 l news
  | [], _ => trivial
  | _ :: _, h => ⟨Nat.ne_of_lt (h _ List.mem_cons_self), off1_lt fun p hp => h p (List.mem_cons_of_mem _ hp)⟩
theorem off1_mem {l : Addr} : ∀ {news : List (Addr × Obj)}, LCg.Off1 l news → ∀ p ∈ news, p.1 ≠ l
  | [], _, _, hp => nomatch hp
  | _ :: _, h, p, hp => by
    rcases List.mem_cons.mp hp with rfl | hp
    · exact h.1
    · exact off1_mem h.2 p hp
theorem layP51 : True := by
  k_with "my binaryOp BitAnd int int" => (first | (with_reducible refine and63 ?_) | (with_reducible refine and255 ?_) | (with_reducible refine and15 ?_))
  k_with "my k_all" => (first | exact off1_mem (by assumption) | exact off1_mem (And.right (by assumption)) | exact off1_mem (And.right (And.right (by assumption))))
  exact True.intro
def AL : List Int := [65, 66, 67, 68, 69, 70, 71, 72, 73, 74, 75, 76, 77, 78, 79, 80, 81, 82, 83, 84, 85, 86, 87, 88, 89, 90, 97, 98, 99, 100, 101, 102, 103, 104, 105, 106, 107, 108, 109, 110, 111, 112, 113, 114, 115, 116, 117, 118, 119, 120, 121, 122, 48, 49, 50, 51, 52, 53, 54, 55, 56, 57, 43, 47]
def tot (ks : List Int) : Int := ks.foldl (fun t c => 256 * t + c) 0
theorem tot_snoc (ks : List Int) (c : Int) : tot (ks ++ [c]) = 256 * tot ks + c := by unfold tot; rw [List.foldl_append]; rfl
theorem fold_bd {B : Int} (hB : 0 < B) : ∀ (ks : List Int) (t : Int), 0 ≤ t → (∀ k ∈ ks, 0 ≤ k ∧ k < B) → 0 ≤ ks.foldl (fun t c => B * t + c) t ∧ ks.foldl (fun t c => B * t + c) t < (t + 1) * B ^ ks.length
  | [], t, ht, _ => ⟨ht, by rw [List.length_nil, Int.pow_zero, Int.mul_one]; exact Int.lt_add_one_of_le (Int.le_refl t)⟩
  | k :: r, t, ht, h => by
    have hk := h k (.head _)
    have ih := fold_bd hB r (B * t + k) (Int.add_nonneg (Int.mul_nonneg (Int.le_of_lt hB) ht) hk.1) fun x hx => h x (.tail _ hx)
    refine ⟨ih.1, Int.lt_of_lt_of_le ih.2 ?_⟩
    rw [List.length_cons, Int.pow_succ', ← Int.mul_assoc]
    refine Int.mul_le_mul_of_nonneg_right ?_ (Int.pow_nonneg (Int.le_of_lt hB))
    rw [Int.add_mul, Int.one_mul, Int.mul_comm t B, Int.add_assoc]
    exact Int.add_le_add_left (Int.add_one_le_of_lt hk.2) _
theorem pow_up {B : Int} (hB : 0 < B) {n : Nat} : ∀ d : Nat, B ^ n ≤ B ^ (n + d)
  | 0 => Int.le_refl _
  | d + 1 => Int.le_trans (pow_up hB d) (by
      have := Int.mul_le_mul_of_nonneg_left (show (1 : Int) ≤ B from hB) (Int.pow_nonneg (Int.le_of_lt hB) : 0 ≤ B ^ (n + d))
      rw [Int.mul_one, ← Int.pow_succ] at this; exact this)
theorem fold_lim {B : Int} (hB : 0 < B) {n : Nat} {ks : List Int} (h : ∀ k ∈ ks, 0 ≤ k ∧ k < B) (hn : ks.length ≤ n) : 0 ≤ ks.foldl (fun t c => B * t + c) 0 ∧ ks.foldl (fun t c => B * t + c) 0 < B ^ n := by
  obtain ⟨h1, h2⟩ := fold_bd hB ks 0 (Int.le_refl 0) h
  obtain ⟨d, rfl⟩ := Nat.exists_eq_add_of_le hn
  rw [Int.zero_add, Int.one_mul] at h2
  exact ⟨h1, Int.lt_of_lt_of_le h2 (pow_up hB d)⟩
theorem tot_bound {ks : List Int} (h : KBa.In ks) (hn : ks.length ≤ 3) : 0 ≤ tot ks ∧ tot ks < 16777216 := fold_lim (by decide) h hn
theorem rsz_down {a b : Int} {n : Nat} (h : a - b = (n : Int)) : Builtin.Range.rangeSize a b (-1) = (n : Int) := by rw [rangeSize_down]; split <;> omega
theorem rsz_up {a b : Int} {n : Nat} (h : b - a = (n : Int)) : Builtin.Range.rangeSize a b 1 = (n : Int) := by rw [rangeSize_one]; split <;> omega
def gco (T : Int) (n : Nat) (p : Int) : Int := AL.getD ((T * 2 ^ (6 * ((n : Int) + 1) - 8 * (n : Int)).toNat).fdiv (2 ^ (6 * p).toNat) % 64).toNat 0
def gcs (ks : List Int) : List Int := (List.range (ks.length + 1)).map (fun j : Nat => gco (tot ks) ks.length ((ks.length : Int) + 1 - 1 + (j : Int) * -1))
theorem group_codes_at (w : World) (news : List (Addr × Obj)) (b al : Array UInt8) (ks : List Int) (t t' : Tok) (hb : KBw.bInts b = ks) (hal : KBw.bInts al = AL) (h1 : 1 ≤ ks.length) (hn : ks.length ≤ 3) : CG w 2 24 [.bytes b t, .bytes al t'] news (RLs news (gcs ks)) := by
  w_top off
  intro mean mg mb dp un gd cn cs a ccd cl outer A₀ base h₀ L m s Q E B F X N T hk hd hu hret
  refine wpAny_call ?_
  k_dflt (refine' code_defC ?k1 ?k2 ?k3 ?k4 ?k5 ?kA ?kF ?kK ?k6 ?k7 ?k8 ?k9 ?kB ?kD ?_ ?c2 ?c3 ?c4; (case kA => exact rfl); (case kF => exact rfl); (case kK => assumption); (case k1 => k_asm); (case k2 => k_asm); (case k3 => k_asm); (case k4 => k_asm); (case k5 => k_asm); (case k6 => k_is); (case k7 => k_is); (case k8 => ktr_room); (case k9 => exact BindsTo.of_eq rfl); (case kB => exact rfl); (case kD => decide +kernel); (case c2 => exact rfl); (case c3 => exact rfl); (case c4 => exact rfl); k_whole)
  intro g' L' h' tk' cells' FG' F' N' Y' B' X' T' l1
  obtain ⟨oA, oB, hE, dA, dB⟩ := CellsAre.two Y'; subst hE; clear Y'
  (try simp only [List.cons_append, List.nil_append] at N'); (try dsimp only); (try k_lift B'); (try k_fold); (try (refine let_AE ?_; intro A9q e9q)); (try ((with_reducible rename Fr _ _ _ _ => F9q); refine let_m F9q ?_; clear F9q; intro m9q F'))
  have hMC : MyComp := True.intro
  have hmkP51 : OwnW := True.intro
  k_with "pyIter bytes" => (guard_hyp hmkP51; k_dflt (refine' lp_bytesG (σ := Int × Obj) (fun c => (L' + 1 + 1, c.2) :: (L' + 1, oB) :: news) (fun _ => []) [] (fun i c => (∃ t, c.2.data = Data.cell (some (.int c.1 t))) ∧ c.1 = tot (ks.take i)) (0, _) hb rfl (by k_asm) (by k_asm) (fun _ hp => nomatch hp) ⟨⟨_, by assumption⟩, rfl⟩ ?_ ?_))
  have hmkP52 : OwnW := True.intro
  k_with "pyIter ref" => (guard_hyp hmkP52; k_dflt (refine' cpU_range (n := ks.length + 1) (σ := Unit) (fun _ => (L' + 1 + 1, _) :: (L' + 1, oB) :: news) (fun i _ ys => IntsAre ys ((List.range i).map (fun j : Nat => gco (tot ks) ks.length ((ks.length : Int) + 1 - 1 + (j : Int) * -1)))) () rfl (by assumption) (small_down (by omega) (by omega) (by omega) (by omega)) (rsz_down (by omega)) (by omega) (by k_asm) (by k_asm) IntsAre.nil ?_ ?_))
  (try k_fold)
  k_steps
  · rintro i k t c u h1 tk own hi h0 h1 hoff ⟨⟨t2, hd1⟩, hJ⟩ F' N'
    simp only [List.cons_append] at N'
    (try k_fold)
    (try (refine let_m F' ?_; clear F'; intro m9q F'm))
    k_steps
    refine' lp_end (256 * c.1 + k, _) ?lpF ?lpN ?lpn ?lpo ?lpa ?lpk ?lpr ?_
    (case lpF => k_asm)
    (case lpN => k_asm)
    (case lpn => kcf_all)
    (case lpo => kcf_all)
    (case lpa => exact rfl)
    (case lpk => first | exact List.forall_mem_nil _ | kst_all)
    (case lpr => (intro z9 h91 h92 h93; first | ((repeat (with_reducible refine lz_cond ?n9 ?_; (case n9 => first | exact h91 | exact lz_sto h93 rfl | exact lz_ps h92 rfl))); refine' (lz_off ?n9).trans ?_; (case n9 => first | exact lz_all h92 rfl | exact List.forall_mem_nil _); exact if_neg (lz_ns h93)) | ((try simp only [List.mem_cons, List.not_mem_nil, or_false, forall_eq, forall_eq_or_imp] at h92); first | (simp only [h91, if_false, kstB]; done) | (simp [kstB, h91, h92]; done) | (simp_all [kstB]; done))))
    refine ⟨⟨_, by assumption⟩, ?_⟩
    rw [List.take_add_one, hi, Option.toList_some, tot_snoc, hJ]
  · rintro c u h1 tk ⟨⟨t2, hd1⟩, hJ⟩ F' N'
    rw [List.take_length] at hJ
    have hT : 0 ≤ c.1 ∧ c.1 < 16777216 := hJ ▸ tot_bound (bints_in hb) hn
    have hJ2 := hJ
    (try k_fold)
    (try (refine let_m F' ?_; clear F'; intro m9q F'm))
    k_steps
    · intro i k t c ys I oI C oC D m₂ h1 tk E' hi hk hJ hC hx F' N' off ne
      subst hk
      have hAL : AL.length = 64 := rfl
      (try k_fold)
      (try (refine let_m F' ?_; clear F'; intro m9q F'm))
      k_steps
      refine' LCg.CompEnd.intro ?lpF ?lpN ((L' + 1 + 1, _) :: (L' + 1, oB) :: news) ?lpa ?lpo ?lps ⟨(), rfl, ?_⟩
      (case lpF => k_asm)
      (case lpN => k_asm)
      (case lpa => kcf_all)
      (case lpo => first | assumption | (simp only [LCg.Off3, and_true]; done) | (simp only [LCg.Off3, and_true]; assumption))
      (case lps => first | trivial | assumption | lcg_src)
      rw [List.range_succ, List.map_append, List.map_cons, List.map_nil]
      have := ints_snoc' hJ (gco (tot ks) ks.length ((ks.length : Int) + 1 - 1 + (i : Int) * -1))
      unfold gco at this ⊢
      rw [hJ2]
      exact this _
    · intro g c ys hJ
      (try k_fold)
      (try (refine let_m F' ?_; clear F'; intro m9q F'm))
      k_steps
      refine' gList (Q := Q) hret hJ ?cF ?cN ?cO
      (case cF => k_asm)
      (case cN => first | k_asm | (refine' cb_drop ?cbN ?cbS; (case cbN => assumption); (case cbS => kcj_all)))
      (case cO => first | assumption | exact And.right (And.right (by assumption)))

theorem clip_nat (n : Nat) (i : Int) (h : 0 ≤ i) : clipAt n i = min i.toNat n := by
  have := clipAt_cast n i
  obtain ⟨j, rfl⟩ := Int.eq_ofNat_of_zero_le h
  rw [if_neg (Int.not_lt.mpr h)] at this
  show clipAt n (j : Int) = min j n
  rcases Nat.le_total j n with h1 | h1
  · rw [Nat.min_eq_left h1]; rw [Int.min_eq_left (Int.ofNat_le.mpr h1), Int.max_eq_right h] at this; exact Int.ofNat.inj this
  · rw [Nat.min_eq_right h1]; rw [Int.min_eq_right (Int.ofNat_le.mpr h1), Int.max_eq_right (Int.natCast_nonneg n)] at this; exact Int.ofNat.inj this
theorem cut_ij (ks : List Int) {i j : Int} (hi : 0 ≤ i) (hj : 0 ≤ j) : (ks.drop (clipAt ks.length i)).take (clipAt ks.length j - clipAt ks.length i) = (ks.drop i.toNat).take (j - i).toNat := by
  rw [clip_nat _ _ hi, clip_nat _ _ hj]
  obtain ⟨a, rfl⟩ := Int.eq_ofNat_of_zero_le hi
  obtain ⟨c, rfl⟩ := Int.eq_ofNat_of_zero_le hj
  rw [Int.toNat_sub]
  show (ks.drop (min a ks.length)).take (min c ks.length - min a ks.length) = (ks.drop a).take (c - a)
  rcases Nat.le_total a ks.length with h | h
  · rw [Nat.min_eq_left h]
    rcases Nat.le_total c ks.length with h2 | h2
    · rw [Nat.min_eq_left h2]
    · rw [Nat.min_eq_right h2, List.take_of_length_le (by rw [List.length_drop]; exact Nat.le_refl _), List.take_of_length_le (by rw [List.length_drop]; exact Nat.sub_le_sub_right h2 a)]
  · rw [Nat.min_eq_right h, List.drop_eq_nil_of_le (Nat.le_refl _), List.drop_eq_nil_of_le h, List.take_nil, List.take_nil]
theorem cut_i (ks : List Int) {i : Int} (hi : 0 ≤ i) : (ks.drop (clipAt ks.length i)).take (ks.length - clipAt ks.length i) = ks.drop i.toNat := by
  rw [clip_nat _ _ hi, List.take_of_length_le (by rw [List.length_drop]; exact Nat.le_refl _)]
  by_cases h : i.toNat ≤ ks.length
  · rw [Nat.min_eq_left h]
  · rw [Nat.min_eq_right (show ks.length ≤ i.toNat by omega), show ks.drop ks.length = [] from List.drop_eq_nil_of_le (Nat.le_refl _), show ks.drop i.toNat = [] from List.drop_eq_nil_of_le (by omega)]
section
variable {prog : Program} {w : World} {A : Around} {E : Value → Shared → Prop} {s : Shared} {h₀ : Heap} {L : Addr} {m : Str → Option Value} {news : List (Addr × Obj)} {b : Array UInt8} {ks : List Int} {t : Tok} {value slice : Expr}
theorem slice_ij {i j : Int} {ti tj : Tok} {Q : Value → Shared → Prop} (hF : Fr h₀ L s.heap m) (hN : News h₀ L s.heap news) (hk : KBw.bInts b = ks) (hz : ks.length ≤ 16777216) (hi : 0 ≤ i) (hj : 0 ≤ j)
    (h : ∀ b' h' t' k, Fr h₀ L h' m → News h₀ L h' news → KBw.bInts b' = (ks.drop i.toNat).take (j - i).toNat → Q (.bytes b' t') { s with heap := h', toks := k })
    (hs : subscripted slice false (.bytes b t) (.ref s.heap.objs.size) = operate [.ref s.heap.objs.size, .bytes b t] (getItem (.bytes b t) (.ref s.heap.objs.size)) := by with_unfolding_all rfl)
    (ht : ∀ r, letTemporaryGo value (.bytes b t) r = pure () := by intro _; with_unfolding_all rfl) :
    wpAny (model prog w) A (subscriptTail value slice (.bytes b t) (.ref s.heap.objs.size)) Q E { s with heap := s.heap.push { cls := .type "slice", data := .fields #[.int i ti, .int j tj, .none] } } := by
  refine KBc.slice_K (s := s) hF hN hk (by constructor) (by constructor) hz (fun h' t' k F' N' e => h _ h' t' k F' N' (e.trans ?_)) hs ht
  exact cut_ij ks hi hj
theorem slice_i {i : Int} {ti : Tok} {Q : Value → Shared → Prop} (hF : Fr h₀ L s.heap m) (hN : News h₀ L s.heap news) (hk : KBw.bInts b = ks) (hz : ks.length ≤ 16777216) (hi : 0 ≤ i)
    (h : ∀ b' h' t' k, Fr h₀ L h' m → News h₀ L h' news → KBw.bInts b' = ks.drop i.toNat → Q (.bytes b' t') { s with heap := h', toks := k })
    (hs : subscripted slice false (.bytes b t) (.ref s.heap.objs.size) = operate [.ref s.heap.objs.size, .bytes b t] (getItem (.bytes b t) (.ref s.heap.objs.size)) := by with_unfolding_all rfl)
    (ht : ∀ r, letTemporaryGo value (.bytes b t) r = pure () := by intro _; with_unfolding_all rfl) :
    wpAny (model prog w) A (subscriptTail value slice (.bytes b t) (.ref s.heap.objs.size)) Q E { s with heap := s.heap.push { cls := .type "slice", data := .fields #[.int i ti, .none, .none] } } := by
  refine KBc.slice_K (s := s) hF hN hk (by constructor) (by constructor) hz (fun h' t' k F' N' e => h _ h' t' k F' N' (e.trans ?_)) hs ht
  exact cut_i ks hi
theorem extend_any {D d : Addr} {its ys : List Value} {n n2 : Nat} {news' : List (Addr × Obj)} {Q : Value → Shared → Prop} (F : Fr h₀ L s.heap m) (N : News h₀ L s.heap news) (hb : (d, listOf ys.toArray n2) ∈ news)
    (U : Upd D (listOf its.toArray n) (listOf (its ++ ys).toArray (n + 1)) news news') (hne : ys.length ≠ 0) (hz : its.length ≤ 1000000) (hz2 : ys.length ≤ 1000000)
    (h : ∀ h', Fr h₀ L h' m → News h₀ L h' news' → Q .none { s with heap := h' }) : wpAny (model prog w) A (call (.builtin "list.extend") [.ref D, .ref d]) Q E s :=
  kl_extend F N hb (its := its.toArray) (its2 := ys.toArray) rfl hne U (by simp [Builtin.List.listTooLong, sizeLine]; omega) (by rw [sizeLine_eq]; show its.length ≤ _; omega) (by rw [sizeLine_eq, List.size_toArray, List.size_toArray]; omega) h
end
theorem gcs_in (ks : List Int) : KBa.In (gcs ks) := by
  intro n hn
  unfold gcs at hn
  obtain ⟨j, _, rfl⟩ := List.mem_map.mp hn
  unfold gco
  generalize Int.fdiv _ _ = x
  have h0 : 0 ≤ x % 64 := Int.emod_nonneg _ (by decide)
  have h1 : x % 64 < 64 := Int.emod_lt_of_pos _ (by decide)
  generalize x % 64 = y at h0 h1
  have : ∀ k : Fin 64, 0 ≤ AL.getD k.1 0 ∧ AL.getD k.1 0 < 256 := by decide
  exact this ⟨y.toNat, by omega⟩
theorem gcs_length (ks : List Int) : (gcs ks).length = ks.length + 1 := by unfold gcs; rw [List.length_map, List.length_range]
theorem g3_lim {ks : List Int} {k : Int} (h : 0 ≤ k) (h1 : k < ks.length) : 1 ≤ ((ks.drop k.toNat).take (k + 3 - k).toNat).length ∧ ((ks.drop k.toNat).take (k + 3 - k).toNat).length ≤ 3 := by
  rw [icl k 3, List.length_take, List.length_drop]; exact ⟨Nat.le_min.mpr ⟨by decide, Nat.sub_pos_of_lt ((Int.toNat_lt h).mpr h1)⟩, Nat.min_le_left _ _⟩
theorem gcs_lim {ks : List Int} {vs : List Value} (hI : IntsAre vs (gcs ks)) (h1 : 1 ≤ ks.length ∧ ks.length ≤ 3) : 2 ≤ vs.length ∧ vs.length ≤ 4 := by
  rw [hI.length, gcs_length]; exact ⟨Nat.succ_le_succ h1.1, Nat.succ_le_succ h1.2⟩
theorem layR61 : True := by
  k_with "my subscriptTail" => ((k_here; (with_reducible show wpAny _ _ (subscriptTail _ (Expr.Slice _ _ none _) (Value.bytes _ _) (Value.ref _)) _ _ _); (with_reducible rename Fr _ _ _ _ => F'q); (with_reducible rename News _ _ _ _ => N'q); first
  | (refine slice_ij (s := ⟨_, _, _, _, _⟩) F'q N'q (by kba_ints) (by kba_size) (by omega) (by omega) ?_)
  | (refine slice_i (s := ⟨_, _, _, _, _⟩) F'q N'q (by kba_ints) (by kba_size) (by omega) ?_)); intro _ _ _ _ _ _ kbcKq9)
  k_with "my call builtin:list.extend" => ((k_here; k_dflt (refine' extend_any (its := _) (ys := _) ?k1Z9 ?k2Z9 ?kbZ9 ?k3Z9 ?keZ9 ?zZ9 ?zzZ9 ?_; (case k1Z9 => k_asm); (case k2Z9 => k_asm); (case kbZ9 => k_mem); (case k3Z9 => k_upd); (case keZ9 => omega); (case zZ9 => omega); (case zzZ9 => omega); k_whole); intro h'q F'q N'q; (try k_sweep)))
  k_with "my call ref" => ((k_here; (with_reducible show wpAny _ _ (PySem.call (Value.ref 24) _) _ _ _); k_dflt (refine' called (group_codes_at _ _ _ _ _ _ _ (by kba_ints) (by first | with_reducible assumption | exact rfl) (g3_lim (by with_reducible assumption) (by with_reducible assumption)).1 (g3_lim (by with_reducible assumption) (by with_reducible assumption)).2) ?kBZ9 ?kFZ9 ?kXZ9 ?kNZ9 ?kTZ9 ?kKZ9 ?kDZ9 ?kUZ9 ?_; (case kBZ9 | kFZ9 | kXZ9 | kNZ9 | kTZ9 => k_asm); (case kKZ9 => first | exact rfl | assumption); (case kDZ9 => ktr_room); (case kUZ9 => ktr_units)); intro l'q vs'q n'q h'q tk'q hI'q F'q N'q o1'q; (try simp only [LCg.Off1, and_true] at o1'q); obtain ⟨hl8'q, hl9'q⟩ := gcs_lim hI'q (g3_lim (by with_reducible assumption) (by with_reducible assumption))))
  exact True.intro

theorem small_step {len c : Int} (h0 : 0 ≤ len) (h1 : len < 1000000) (hc : 1 ≤ c) (hc1 : c < 1000000) : Builtin.Range.small 0 len c = true := by
  unfold Builtin.Range.small
  rw [rangeSize_pos hc h0]
  have hd : 0 ≤ (len + c - 1) / c := Int.ediv_nonneg (by omega) (by omega)
  have hd2 : (len + c - 1) / c ≤ len + c - 1 := Int.ediv_le_self _ (by omega)
  simp only [Builtin.Range.rangeFitsLong, Bool.and_eq_true, Bool.or_eq_true, decide_eq_true_eq, beq_iff_eq, show c > 0 by omega, if_true]
  have hs := Int.add_sub_assoc len c 1
  have h2 : (2 : Int) ^ 63 = 9223372036854775808 := by decide
  rw [h2]
  generalize (len + c - 1) / c = d at hd hd2 ⊢
  refine ⟨⟨⟨⟨by decide, by omega, by omega⟩, by omega, by omega⟩, by omega, by omega⟩, Or.inr ⟨by omega, by omega⟩⟩
theorem rsz_step {len c : Int} {n : Nat} (h0 : 0 ≤ len) (hc : 1 ≤ c) (h : (len + c - 1) / c = (n : Int)) : Builtin.Range.rangeSize 0 len c = (n : Int) := by rw [rangeSize_pos hc h0, h]
def pe (ks : List Int) : List Int := (List.range ((ks.length + 2) / 3)).flatMap fun i => gcs ((ks.drop (3 * i)).take 3)
theorem i3 {i n : Nat} (h : i < (n + 2) / 3) : 3 * i < n := by omega
theorem part_encoded_at (w : World) (news : List (Addr × Obj)) (b al : Array UInt8) (ks : List Int) (t t' : Tok) (hb : KBw.bInts b = ks) (hal : KBw.bInts al = AL) (hn : ks.length ≤ 4096) : CG w 3 36 [.bytes b t, .bytes al t'] news (RB news (pe ks)) := by
  w_top off
  intro mean mg mb dp un gd cn cs a ccd cl outer A₀ base h₀ L m s Q E B F X N T hk hd hu hret
  refine wpAny_call ?_
  k_dflt cell_enter
  (try (refine let_AE ?_; intro A9q e9q)); (try ((with_reducible rename Fr _ _ _ _ => F9q); refine let_m F9q ?_; clear F9q; intro m9q F'))
  have hmkP61 : OwnW := True.intro
  k_with "pyIter ref" => (guard_hyp hmkP61; k_dflt (refine' lp_range (n := (ks.length + 2) / 3) (fun (c : List Value × List Int × Nat) => listOf c.1.toArray c.2.2) (fun _ => []) [] (fun i c => IntsAre c.1 c.2.1 ∧ c.1.length ≤ 4 * i ∧ c.2.1 = (List.range i).flatMap (fun i => gcs ((ks.drop (3 * i)).take 3))) ([], [], 0) rfl (by assumption) (small_step (by omega) (by omega) (by omega) (by omega)) (rsz_step (by omega) (by omega) (by omega)) (by k_asm) (by k_asm) (fun _ hp => nomatch hp) ⟨.nil, Nat.zero_le _, rfl⟩ ?_ ?_))
  (try k_fold)
  k_steps
  · rintro i k t c u h1 tk own hi hk hoff ⟨hI, hl, hJ⟩ F' N'
    have hk9 : k = ((3 * i : Nat) : Int) := by rw [hk, Int.zero_add, Int.mul_comm]; rfl
    have hk0 : 0 ≤ k := hk9 ▸ Int.natCast_nonneg _
    have hk1 : k < ks.length := hk9 ▸ Int.ofNat_lt.mpr (i3 hi)
    (try k_fold)
    (try (refine let_m F' ?_; clear F'; intro m9q F'm))
    k_steps
    rename IntsAre _ (gcs _) => hI2
    rw [icl k 3, show k.toNat = 3 * i from congrArg Int.toNat hk9] at hI2
    refine' lp_end (_, c.2.1 ++ gcs ((ks.drop (3 * i)).take 3), _) ?lpF ?lpN ?lpn ?lpo ?lpa ?lpk ?lpr ?_
    (case lpF => k_asm)
    (case lpN => k_asm)
    (case lpn => kcf_all)
    (case lpo => kcf_all)
    (case lpa => exact rfl)
    (case lpk => first | exact List.forall_mem_nil _ | kst_all)
    (case lpr => (intro z9 h91 h92 h93; first | ((repeat (with_reducible refine lz_cond ?n9 ?_; (case n9 => first | exact h91 | exact lz_sto h93 rfl | exact lz_ps h92 rfl))); refine' (lz_off ?n9).trans ?_; (case n9 => first | exact lz_all h92 rfl | exact List.forall_mem_nil _); exact if_neg (lz_ns h93)) | ((try simp only [List.mem_cons, List.not_mem_nil, or_false, forall_eq, forall_eq_or_imp] at h92); first | (simp only [h91, if_false, kstB]; done) | (simp [kstB, h91, h92]; done) | (simp_all [kstB]; done))))
    refine ⟨hI.append hI2, ?_, ?_⟩
    · dsimp only; rw [List.length_append]; omega
    · dsimp only; rw [hJ, List.range_succ, List.flatMap_append]; simp
  · rintro c u h1 tk ⟨hI, hl, hJ⟩ F' N'
    have hl2 := hI.length
    (try k_fold)
    (try (refine let_m F' ?_; clear F'; intro m9q F'm))
    k_steps
    (k_dflt (refine' KBa.make_K ?kbaF ?kbaN ?kbah ?kbal ?kbai ?_ ?kban ?_; (case kbaF => k_asm); (case kbaN => k_asm); (case kbah => rfl); (case kbal => kba_isList); (case kbai => kba_listInts); (case kban => kba_size)))
    · rw [hJ]; intro n hn; obtain ⟨i, _, h⟩ := List.mem_flatMap.mp hn; exact gcs_in _ n h
    · intro h' t' k' F' N' hin
      (try k_fold)
      (try (refine let_m F' ?_; clear F'; intro m9q F'm))
      k_steps
      refine' gBytes (Q := Q) hret ?_ ?cF ?cN
      (case cF => k_asm)
      (case cN => first | k_asm | (refine' cb_drop ?cbN ?cbS; (case cbN => assumption); (case cbS => kcj_all)))
      rw [KBa.ints_make hin, hJ]; rfl
theorem layP61 : True := by
  k_with "my call ref" => ((k_here; (with_reducible show wpAny _ _ (PySem.call (Value.ref 36) _) _ _ _); k_dflt (refine' called (part_encoded_at _ _ _ _ _ _ _ (by kba_ints) (by first | with_reducible assumption | exact rfl) (by omega)) ?kBZ9 ?kFZ9 ?kXZ9 ?kNZ9 ?kTZ9 ?kKZ9 ?kDZ9 ?kUZ9 ?_; (case kBZ9 | kFZ9 | kXZ9 | kNZ9 | kTZ9 => k_asm); (case kKZ9 => first | exact rfl | assumption); (case kDZ9 => ktr_room); (case kUZ9 => ktr_units)); intro b'q t'q h'q tk'q kbEq9 F'q N'q))
  exact True.intro

theorem flatMap_le {α β : Type} (f : α → List β) (k : Nat) : ∀ l : List α, (∀ a ∈ l, (f a).length ≤ k) → (l.flatMap f).length ≤ k * l.length
  | [], _ => by simp
  | a :: l, h => by
    rw [List.flatMap_cons, List.length_append, List.length_cons, Nat.mul_add, Nat.mul_one]
    rw [Nat.add_comm]
    exact Nat.add_le_add (flatMap_le f k l fun b hb => h b (List.mem_cons_of_mem _ hb)) (h a List.mem_cons_self)
theorem pe_length (ks : List Int) : (pe ks).length ≤ 4 * ((ks.length + 2) / 3) := by
  have := flatMap_le (fun i => gcs ((ks.drop (3 * i)).take 3)) 4 (List.range ((ks.length + 2) / 3)) (fun a _ => by rw [gcs_length, List.length_take]; exact Nat.succ_le_succ (Nat.min_le_left _ _))
  rw [List.length_range] at this
  exact this
def b64 (ks : List Int) : List Int := pe ks ++ List.replicate ((-(ks.length : Int)).fmod 3).toNat 61
theorem one_line_at (w : World) (news : List (Addr × Obj)) (b : Array UInt8) (ks : List Int) (t : Tok) (hb : KBw.bInts b = ks) (hn : ks.length ≤ 4096) : CG w 4 43 [.bytes b t] news (RB news (b64 ks)) := by
  have hpl := pe_length ks
  have hm0 := Int.fmod_nonneg_of_pos (-(ks.length : Int)) (show (0 : Int) < 3 by decide)
  have hm1 := Int.fmod_lt_of_pos (-(ks.length : Int)) (show (0 : Int) < 3 by decide)
  w_top off
  intro mean mg mb dp un gd cn cs a ccd cl outer A₀ base h₀ L m s Q E B F X N T hk hd hu hret
  refine wpAny_call ?_
  k_dflt cell_enter
  (try (refine let_AE ?_; intro A9q e9q)); (try ((with_reducible rename Fr _ _ _ _ => F9q); refine let_m F9q ?_; clear F9q; intro m9q F'))
  (try k_fold)
  k_steps
  (k_dflt (refine' KBa.make_K ?kbaF ?kbaN ?kbah ?kbal ?kbai ?_ ?kban ?_; (case kbaF => k_asm); (case kbaN => k_asm); (case kbah => rfl); (case kbal => kba_isList); (case kbai => kba_listInts); (case kban => kba_size)))
  · intro n hn
    obtain ⟨l, hl, hnl⟩ := List.mem_flatten.mp hn
    rw [List.eq_of_mem_replicate hl] at hnl
    rw [List.mem_singleton.mp hnl]; decide
  · intro h' t' k' F' N' hin
    (try k_fold)
    k_steps
    refine' gBytes (Q := Q) hret ?_ ?cF ?cN
    (case cF => k_asm)
    (case cN => first | k_asm | (refine' cb_drop ?cbN ?cbS; (case cbN => assumption); (case cbS => kcj_all)))
    rename (KBw.bInts (_ ++ _) = _) => hA
    rw [hA]
    unfold b64
    congr 1
    rw [List.flatten_replicate_singleton]
theorem layP71 : True := by
  k_with "my call ref" => ((k_here; (with_reducible show wpAny _ _ (PySem.call (Value.ref 43) _) _ _ _); k_dflt (refine' called (one_line_at _ _ _ _ _ (by kba_ints) (by omega)) ?kBZ9 ?kFZ9 ?kXZ9 ?kNZ9 ?kTZ9 ?kKZ9 ?kDZ9 ?kUZ9 ?_; (case kBZ9 | kFZ9 | kXZ9 | kNZ9 | kTZ9 => k_asm); (case kKZ9 => first | exact rfl | assumption); (case kDZ9 => ktr_room); (case kUZ9 => ktr_units)); intro b'q t'q h'q tk'q kbEq9 F'q N'q))
  exact True.intro
theorem in_lines_at (w : World) (news : List (Addr × Obj)) (b : Array UInt8) (ks : List Int) (t t' : Tok) (hb : KBw.bInts b = ks) (hn : ks.length ≤ 4096) : CG w 2 48 [.bytes b t, .int 0 t'] news (RB news ks) := by
  w_top off
  intro mean mg mb dp un gd cn cs a ccd cl outer A₀ base h₀ L m s Q E B F X N T hk hd hu hret
  refine wpAny_call ?_
  k_dflt (refine' code_defC ?k1 ?k2 ?k3 ?k4 ?k5 ?kA ?kF ?kK ?k6 ?k7 ?k8 ?k9 ?kB ?kD ?_ ?c2 ?c3 ?c4; (case kA => exact rfl); (case kF => exact rfl); (case kK => assumption); (case k1 => k_asm); (case k2 => k_asm); (case k3 => k_asm); (case k4 => k_asm); (case k5 => k_asm); (case k6 => k_is); (case k7 => k_is); (case k8 => ktr_room); (case k9 => exact BindsTo.of_eq rfl); (case kB => exact rfl); (case kD => decide +kernel); (case c2 => exact rfl); (case c3 => exact rfl); (case c4 => exact rfl); k_whole)
  intro g' L' h' tk' cells' FG' F' N' Y' B' X' T' l1
  obtain ⟨oA, oB, hE, dA, dB⟩ := CellsAre.two Y'; subst hE; clear Y'
  (try simp only [List.cons_append, List.nil_append] at N'); (try dsimp only); (try k_lift B'); (try k_fold); (try (refine let_AE ?_; intro A9q e9q)); (try ((with_reducible rename Fr _ _ _ _ => F9q); refine let_m F9q ?_; clear F9q; intro m9q F'))
  (try k_fold)
  k_steps
  refine' gBytes (Q := Q) hret ?_ ?cF ?cN
  (case cF => k_asm)
  (case cN => first | k_asm | (refine' cb_drop ?cbN ?cbS; (case cbN => assumption); (case cbS => kcj_all)))
  exact hb
theorem layP72 : True := by
  k_with "my call ref" => ((k_here; (with_reducible show wpAny _ _ (PySem.call (Value.ref 48) _) _ _ _); k_dflt (refine' called (in_lines_at _ _ _ _ _ _ (by kba_ints) (by omega)) ?kBZ9 ?kFZ9 ?kXZ9 ?kNZ9 ?kTZ9 ?kKZ9 ?kDZ9 ?kUZ9 ?_; (case kBZ9 | kFZ9 | kXZ9 | kNZ9 | kTZ9 => k_asm); (case kKZ9 => first | exact rfl | assumption); (case kDZ9 => ktr_room); (case kUZ9 => ktr_units)); intro b'q t'q h'q tk'q kbEq9 F'q N'q))
  exact True.intro
theorem b64_length (ks : List Int) : (b64 ks).length ≤ 4 * ((ks.length + 2) / 3) + 2 := by
  have := pe_length ks
  have hm1 := Int.fmod_lt_of_pos (-(ks.length : Int)) (show (0 : Int) < 3 by decide)
  unfold b64
  rw [List.length_append, List.length_replicate]
  exact Nat.add_le_add this (toNat_up3 hm1)
theorem encoded_at (w : World) (news : List (Addr × Obj)) (b : Array UInt8) (ks : List Int) (t t' : Tok) (hb : KBw.bInts b = ks) (hn : ks.length ≤ 2048) : CG w 5 56 [.bytes b t, .int 0 t'] news (RB news (b64 ks)) := by
  have hbl := b64_length ks
  w_top off
  intro mean mg mb dp un gd cn cs a ccd cl outer A₀ base h₀ L m s Q E B F X N T hk hd hu hret
  refine wpAny_call ?_
  k_dflt (refine' code_def ?k1 ?k2 ?k3 ?k4 ?k5 ?kA ?kF ?kK ?k6 ?k7 ?k8 ?k9 ?kB ?_ ?c2 ?c3 ?c4 ?c5; (case kA => exact rfl); (case kF => exact rfl); (case kK => assumption); (case k1 => k_asm); (case k2 => k_asm); (case k3 => k_asm); (case k4 => k_asm); (case k5 => k_asm); (case k6 => k_is); (case k7 => k_is); (case k8 => ktr_room); (case k9 => exact binds_K (by k_in) rfl (by k_is) rfl rfl rfl); (case c5 => decide); (case kB => exact locs rfl); (case c2 => exact rfl); (case c3 => exact rfl); (case c4 => exact rfl); k_whole; intro g' L' h' FG' F' N' B' X' T'; (try dsimp only); (try k_lift B'); (try k_fold); (try (refine let_AE ?_; intro A9q e9q)); (try ((with_reducible rename Fr _ _ _ _ => F9q); refine let_m F9q ?_; clear F9q; intro m9q F')))
  (try k_fold)
  k_steps
  refine' gBytes (Q := Q) hret ?_ ?cF ?cN
  (case cF => k_asm)
  (case cN => first | k_asm | (refine' cb_drop ?cbN ?cbS; (case cbN => assumption); (case cbS => kcj_all)))
  assumption
theorem layP73 : True := by
  k_with "my call ref" => ((k_here; (with_reducible show wpAny _ _ (PySem.call (Value.ref 56) _) _ _ _); k_dflt (refine' called (encoded_at _ _ _ _ _ _ (by kba_ints) (by omega)) ?kBZ9 ?kFZ9 ?kXZ9 ?kNZ9 ?kTZ9 ?kKZ9 ?kDZ9 ?kUZ9 ?_; (case kBZ9 | kFZ9 | kXZ9 | kNZ9 | kTZ9 => k_asm); (case kKZ9 => first | exact rfl | assumption); (case kDZ9 => ktr_room); (case kUZ9 => ktr_units)); intro b'q t'q h'q tk'q kbEq9 F'q N'q))
  exact True.intro

section
variable {prog : Program} {w : World} {A : Around} {E : Value → Shared → Prop} {s : Shared} {env : Env} {h₀ : Heap} {x : Str} {body : List Stmt} {Q : Flow → Shared → Prop} {σ : Type} {m₀ : Str → Option Value}
theorem lp_ints {l : Addr} {vs : List Value} {ns : List Int} {nn : Nat} (led : σ → List (Addr × Obj)) (ps : σ → List (Str × Value)) (stored : List Str) (J : Nat → σ → Prop) (c₀ : σ)
    (hl : ∀ c, (l, listOf vs.toArray nn) ∈ led c) (hi : IntsAre vs ns) (hh : A.handled = none) (F : Fr h₀ env.locals s.heap m₀) (N : News h₀ env.locals s.heap (led c₀)) (hk : ∀ p ∈ ps c₀, m₀ p.1 = some p.2) (hj : J 0 c₀)
    (turn : Hold (∀ (i : Nat) (k : Int) (t : Tok) (c : σ) (u : Str → Option Value) h tk own, ns[i]? = some k → OwnOff own ((led c₀).map (·.1)) → J i c →
      Fr h₀ env.locals h (fun y => if y = x then some (.int k t) else kstB (fun z => if stored.contains z then u z else m₀ z) (ps c) y) → News h₀ env.locals h (led c ++ own) →
      wpAny (model prog w) A (execs body env) (InvPostN h₀ env.locals (LpS led ps x stored m₀ (J (i + 1))) own ((led c₀).map (·.1)) { s with heap := h, toks := tk } Q) E { s with heap := h, toks := tk }))
    (done : Hold (∀ (c : σ) (u : Str → Option Value) h tk, J ns.length c → Fr h₀ env.locals h (fun y => if y = x then u y else kstB (fun z => if stored.contains z then u z else m₀ z) (ps c) y) → News h₀ env.locals h (led c) → Q .next { s with heap := h, toks := tk })) :
    wpAny (model prog w) A (pyIter (.ref l)) (fun it s₂ => LoopAtV prog w A h₀ env x body Q E it s₂) E s := by
  refine iter_invNL (fun i m nx => LpS led ps x stored m₀ (J i) m nx) hh (hl c₀) hi F N ⟨c₀, rfl, hk, fun _ _ _ _ => rfl, hj⟩ ?_ ?_
  · rintro i n t m₁ nx h tk own hn _ hoff _ ⟨c, rfl, h1, h2, hJ⟩ F₁ N₁
    refine wpAny_mono (turn i n t c m₁ h tk own hn hoff hJ (kst_fr h1 h2 F₁) N₁) (fun f s₂ p => ?_) fun _ _ x => x
    have up : InvEndN h₀ env.locals (LpS led ps x stored m₀ (J (i + 1))) own ((led c₀).map (·.1)) { s with heap := h, toks := tk } s₂ →
        InvEndN h₀ env.locals (fun m' nx => (l, listOf vs.toArray nn) ∈ nx ∧ LpS led ps x stored m₀ (J (i + 1)) m' nx) own ((led c₀).map (·.1)) { s with heap := h, toks := tk } s₂ := by
      rintro ⟨h', tk', m', news', nx', e', F', N', hn', ho', ha, hS⟩
      refine ⟨h', tk', m', news', nx', e', F', N', hn', ho', ha, ?_, hS⟩
      obtain ⟨c', rfl, _⟩ := hS
      exact hl c'
    cases f with
    | ret v => exact p
    | brk => exact p
    | next => exact up p
    | cont => exact up p
  · rintro m₁ nx h tk _ ⟨c, rfl, h1, h2, hJ⟩ F₁ N₁
    exact done c m₁ h tk hJ (kst_frOut h1 h2 F₁) N₁
end

def tot6 (ks : List Int) : Int := ks.foldl (fun t c => 64 * t + c) 0
theorem tot6_snoc (ks : List Int) (c : Int) : tot6 (ks ++ [c]) = 64 * tot6 ks + c := by unfold tot6; rw [List.foldl_append]; rfl
def gob (ks : List Int) (p : Int) : Int := ((tot6 ks).fdiv (2 ^ (6 * (ks.length : Int) - 8 * ((ks.length : Int) - 1)).toNat)).fdiv (2 ^ (8 * p).toNat) % 256
def gos (ks : List Int) : List Int := (List.range (ks.length - 1)).map fun j : Nat => gob ks ((ks.length : Int) - 1 - 1 + (j : Int) * -1)
theorem tot6_bound {ks : List Int} (h : ∀ k ∈ ks, 0 ≤ k ∧ k < 64) (hn : ks.length ≤ 4) : 0 ≤ tot6 ks ∧ tot6 ks < 16777216 := fold_lim (by decide) h hn
/-- a new tuple comes back: bytes and an int -/
abbrev RTB (news : List (Addr × Obj)) (ks : List Int) : Cont := fun h₀ L m s Q _ => ∀ (T : Addr) (b : Array UInt8) (t : Tok) (x : Int) (t2 : Tok) (h' : Heap) (tk' : Nat), KBw.bInts b = ks → Fr h₀ L h' m → News h₀ L h' ((T, { cls := .type "tuple", data := .seq #[.bytes b t, .int x t2] }) :: news) → LCg.Off1 T news → Q (.ref T) { s with heap := h', toks := tk' }
theorem gTupB {h₀ h' : Heap} {L T : Addr} {m : Str → Option Value} {news : List (Addr × Obj)} {s : Shared} {Q E : Value → Shared → Prop} {ks : List Int} {b : Array UInt8} {t t2 : Tok} {x : Int} {tk' : Nat} (hret : RTB news ks h₀ L m s Q E) (e : KBw.bInts b = ks) (F : Fr h₀ L h' m) (N : News h₀ L h' ((T, { cls := .type "tuple", data := .seq #[.bytes b t, .int x t2] }) :: news)) (o : LCg.Off1 T news) : Q (.ref T) { s with heap := h', toks := tk' } := hret T b t x t2 h' tk' e F N o
theorem rng_snoc {f : Nat → Int} {i : Nat} {ys : List Value} {x : Int} {t : Tok} (hJ : IntsAre ys ((List.range i).map f)) (e : x = f i) : IntsAre (ys ++ [.int x t]) ((List.range (i + 1)).map f) := by
  subst e
  rw [List.range_succ, List.map_append]
  exact ints_snoc' hJ _ _
theorem group_octets_at (w : World) (news : List (Addr × Obj)) (l : Addr) (vs : List Value) (nn : Nat) (ks : List Int) (hi : IntsAre vs ks) (h64 : ∀ k ∈ ks, 0 ≤ k ∧ k < 64) (h1 : 2 ≤ ks.length) (hn : ks.length ≤ 4) : CG w 2 29 [.ref l] ((l, listOf vs.toArray nn) :: news) (RTB ((l, listOf vs.toArray nn) :: news) (gos ks)) := by
  w_top off
  intro mean mg mb dp un gd cn cs a ccd cl outer A₀ base h₀ L m s Q E B F X N T hk hd hu hret
  refine wpAny_call ?_
  k_dflt (refine' code_defC ?k1 ?k2 ?k3 ?k4 ?k5 ?kA ?kF ?kK ?k6 ?k7 ?k8 ?k9 ?kB ?kD ?_ ?c2 ?c3 ?c4; (case kA => exact rfl); (case kF => exact rfl); (case kK => assumption); (case k1 => k_asm); (case k2 => k_asm); (case k3 => k_asm); (case k4 => k_asm); (case k5 => k_asm); (case k6 => k_is); (case k7 => k_is); (case k8 => ktr_room); (case k9 => exact BindsTo.of_eq rfl); (case kB => exact rfl); (case kD => decide +kernel); (case c2 => exact rfl); (case c3 => exact rfl); (case c4 => exact rfl); k_whole)
  intro g' L' h' tk' cells' FG' F' N' Y' B' X' T' l1
  obtain ⟨oA, hE, dA⟩ := CellsAre.one Y'; subst hE; clear Y'
  (try simp only [List.cons_append, List.nil_append] at N'); (try dsimp only); (try k_lift B'); (try k_fold); (try (refine let_AE ?_; intro A9q e9q)); (try ((with_reducible rename Fr _ _ _ _ => F9q); refine let_m F9q ?_; clear F9q; intro m9q F'))
  have hMC : MyComp := True.intro
  have hvl := hi.length
  have hmkP81 : OwnW := True.intro
  k_with "pyIter ref" => (guard_hyp hmkP81; k_dflt (first
    | (refine' lp_ints (σ := Int × Tok) (fun _ => (L' + 1, oA) :: (l, listOf vs.toArray nn) :: news) (fun c => [("total", .int c.1 c.2)]) [] (fun i c => c.1 = tot6 (ks.take i)) (0, _) (fun _ => by k_mem) hi rfl (by k_asm) (by k_asm) (by kst_all) rfl ?_ ?_)
    | (refine' cpU_range (n := ks.length - 1) (σ := Unit) (fun _ => (L' + 1, _) :: (l, listOf vs.toArray nn) :: news) (fun i _ ys => IntsAre ys ((List.range i).map (fun j : Nat => gob ks ((ks.length : Int) - 1 - 1 + (j : Int) * -1)))) () rfl (by assumption) (small_down (by omega) (by omega) (by omega) (by omega)) (rsz_down (by omega)) (by omega) (by k_asm) (by k_asm) IntsAre.nil ?_ ?_)))
  (try k_fold)
  k_steps
  · rintro i k t c u h1 tk own hk hoff hJ F' N'
    simp only [List.cons_append] at N'
    (try k_fold)
    (try (refine let_m F' ?_; clear F'; intro m9q F'm))
    k_steps
    refine' lp_end (64 * c.1 + k, _) ?lpF ?lpN ?lpn ?lpo ?lpa ?lpk ?lpr ?_
    (case lpF => k_asm)
    (case lpN => k_asm)
    (case lpn => kcf_all)
    (case lpo => kcf_all)
    (case lpa => exact rfl)
    (case lpk => first | exact List.forall_mem_nil _ | kst_all)
    (case lpr => (intro z9 h91 h92 h93; first | ((repeat (with_reducible refine lz_cond ?n9 ?_; (case n9 => first | exact h91 | exact lz_sto h93 rfl | exact lz_ps h92 rfl))); refine' (lz_off ?n9).trans ?_; (case n9 => first | exact lz_all h92 rfl | exact List.forall_mem_nil _); exact if_neg (lz_ns h93)) | ((try simp only [List.mem_cons, List.not_mem_nil, or_false, forall_eq, forall_eq_or_imp] at h92); first | (simp only [h91, if_false, kstB]; done) | (simp [kstB, h91, h92]; done) | (simp_all [kstB]; done))))
    dsimp only
    rw [List.take_add_one, hk, Option.toList_some, tot6_snoc, hJ]
  · rintro c u h1 tk hJ F' N'
    rw [List.take_length] at hJ
    have hT : 0 ≤ c.1 ∧ c.1 < 16777216 := hJ ▸ tot6_bound h64 hn
    have hJ2 := hJ
    (try k_fold)
    (try (refine let_m F' ?_; clear F'; intro m9q F'm))
    k_steps
    · intro i k t c ys I oI C oC D m₂ h1 tk E' hi hk hJ hC hx F' N' off ne
      subst hk
      (try k_fold)
      (try (refine let_m F' ?_; clear F'; intro m9q F'm))
      k_steps
      refine' LCg.CompEnd.intro ?lpF ?lpN ((L' + 1, _) :: (l, listOf vs.toArray nn) :: news) ?lpa ?lpo ?lps ⟨(), rfl, ?_⟩
      (case lpF => k_asm)
      (case lpN => k_asm)
      (case lpa => kcf_all)
      (case lpo => first | assumption | (simp only [LCg.Off3, and_true]; done) | (simp only [LCg.Off3, and_true]; assumption))
      (case lps => first | trivial | assumption | lcg_src)
      refine' rng_snoc hJ ?_
      unfold gob
      rw [hJ2]
    · intro g c ys hJ
      have hln : ((List.range (ks.length - 1)).map (fun j : Nat => gob ks ((ks.length : Int) - 1 - 1 + (j : Int) * -1))).length ≤ 4 := by rw [List.length_map, List.length_range]; omega
      (try k_fold)
      (try (refine let_m F' ?_; clear F'; intro m9q F'm))
      k_steps
      (k_dflt (refine' KBa.make_K ?kbaF ?kbaN ?kbah ?kbal ?kbai ?_ ?kban ?_; (case kbaF => k_asm); (case kbaN => k_asm); (case kbah => rfl); (case kbal => kba_isList); (case kbai => kba_listInts); (case kban => kba_size)))
      · intro n hn
        obtain ⟨j, _, rfl⟩ := List.mem_map.mp hn
        unfold gob
        exact ⟨Int.emod_nonneg _ (by decide), Int.emod_lt_of_pos _ (by decide)⟩
      · intro h' t' k' F' N' hin
        (try k_fold)
        (try (refine let_m F' ?_; clear F'; intro m9q F'm))
        k_steps
        refine' gTupB (Q := Q) hret ?cE ?cF ?cN ?cO
        (case cE => exact KBa.ints_make hin)
        (case cF => k_asm)
        (case cN => first | k_asm | (refine' cb_drop ?cbN ?cbS; (case cbN => assumption); (case cbS => kcj_all)))
        (case cO => rename (_ < _ ∧ _) => hlt; exact ⟨Nat.ne_of_lt hlt.2.2.1, off1_lt (allLt_mem _ hlt.2.2.2)⟩)
theorem layP81 : True := by
  k_with "my call ref" => ((k_here; (with_reducible show wpAny _ _ (PySem.call (Value.ref 29) _) _ _ _); k_dflt (refine' called (group_octets_at _ _ _ _ _ _ (by with_reducible assumption) (by with_reducible assumption) (by omega) (by omega)) ?kBZ9 ?kFZ9 ?kXZ9 ?kNZ9 ?kTZ9 ?kKZ9 ?kDZ9 ?kUZ9 ?_; (case kBZ9 | kFZ9 | kXZ9 | kNZ9 | kTZ9 => k_asm); (case kKZ9 => first | exact rfl | assumption); (case kDZ9 => ktr_room); (case kUZ9 => ktr_units)); intro T'q b'q t'q x'q t2'q h'q tk'q kbEq9 F'q N'q o1'q; (try simp only [LCg.Off1, and_true] at o1'q)))
  exact True.intro

theorem getAttrQ_miss_list {prog : Program} {w : World} {A : Around} {E : Value → Shared → Prop} {s : Shared} {a : Addr} {xs : Array Value} {k : Nat} {name : Str} {Q : Option Value → Shared → Prop}
    (hx : s.heap.get? a = some { cls := .type "list", data := .seq xs k }) (hmiss : typeLookup (.type "list") name = pure none) (hname : (["__module__", "__name__", "__qualname__", "__doc__", "__annotations__"] : List Str).contains name = false) (hA : A.handled = none)
    (h : ∀ h' tk, (∀ b o, s.heap.get? b = some o → h'.get? b = some o) → Q none { s with heap := h', toks := tk }) (hsz : name.length + 100 ≤ sizeLine := by size_fits) :
    wpAny (model prog w) A (getAttr? (.ref a) name) Q E s := by
  obtain ⟨hp, g, d, tk, os⟩ := s
  have hT : ∀ tk', (⟨hp, g, d, tk', os⟩ : Shared).TypeIs (.ref a) "list" := fun _ => ⟨_, hx, rfl⟩
  have f1 := sub_AttributeError
  have f3 := F.slot_list_getattribute.lookup
  have f4 := F.slot_list_getattribute.bind (.ref a)
  have f5 := am_list_getattr_none
  unfold getAttr? getAttrBy? getAttrBy
  repeat (any_goals (first | assumption | exact hT _ | ((with_reducible show wpAny _ _ (call (Value.builtin "list.__getattribute__") _ _) _ _ _); refine call_meets F.slot_list_getattribute (hT _) am_entry_list_getattribute (F.args_list_getattribute_2 _ _) (meets_getattribute_miss_list a xs k #[] name _ hmiss hname hsz) ⟨hx, hA, fun h' tk' e hx' => ?_⟩) | wp_step))
  obtain ⟨t', u', he⟩ := hx'.there
  show wpAny _ _ (getattributeRaised _ _ _ _ _ _ _) _ _ _
  unfold getattributeRaised
  repeat (any_goals (first | assumption | wp_step))
  exact h _ _ hx'.keeps

theorem entry_dul : entryFor table "dict.update.loop" = some Builtin.«dict.update.loop» := entryFor_of_tree (by kernel_rfl)
theorem plain_dul : plainId "dict.update.loop" = true := by decide +kernel
def fillD (kvs : List (Int × Value)) (ps : List (Int × Value)) : List (Int × Value) := ps.foldl (fun m p => stored m p.1 p.2) kvs
/-- items that are tuples of an int and a value -/
def PairsAt (h : Heap) (D I : Addr) (its : Array Value) (ps : List (Int × Value)) : Prop :=
  ∀ (i : Nat) (v : Value), its[i]? = some v → ∃ (T : Addr) (k : Int) (t : Tok) (x : Value) (c : Nat), v = Value.ref T ∧ ps[i]? = some (k, x) ∧ h.get? T = some { cls := .type "tuple", data := .seq #[.int k t, x] c } ∧ T ≠ D ∧ T ≠ I
theorem stored_len (kvs : List (Int × Value)) (k : Int) (v : Value) : (stored kvs k v).length ≤ kvs.length + 1 := by
  unfold stored; split <;> simp
theorem dul_loop {prog : Program} {w : World} {A : Around} {R : Result → Shared → Prop} (hh : A.handled = none) {D I l : Addr} {its : Array Value} {ps : List (Int × Value)} (hps : ps.length = its.size) (hIl : l ≠ I) (hDI : D ≠ I) (hDl : D ≠ l) (hsz : its.size ≤ 4096) (g : Heap) (hP : PairsAt g D I its ps) :
    ∀ (j i : Nat) (s : Shared) (kvs : List (Int × Value)), its.size - i = j → i ≤ its.size → kvs.length ≤ i → s.heap.IsListIter I l i → s.heap.IsList l its → (∀ b o, b ≠ D → b ≠ I → g.get? b = some o → s.heap.get? b = some o) → s.heap.DictOf (intKind prog w) D kvs →
    (∀ h' tk, (∀ b o, b ≠ D → b ≠ I → g.get? b = some o → h'.get? b = some o) → h'.DictOf (intKind prog w) D (fillD kvs (ps.drop i)) → R (.ok (.ret .none)) { s with heap := h', toks := tk }) →
    codeAny (model prog w) A (.builtin "dict.update.loop" ⟨[.ref D, .ref I, rawInt i, .none], []⟩) R s := by
  have W := Walks.list (prog := prog) (w := w) (A := A.in1) hh I l hIl its
  intro j
  induction j with
  | zero =>
    intro i s kvs hj hi hkl hit hl hk hd hR
    obtain rfl : i = its.size := nsub0 hj hi
    refine codeAny_builtin entry_dul ?_
    rw [Around.under_plainId plain_dul _]
    show wpAny _ A.in1 (pyNext (.ref I) >>= _) _ _ s
    refine wpAny_bind (W.done s _ _ ⟨hit, hl⟩ fun h' tk hk' => ?_)
    show wpAny _ _ (Builtin.Dict.addKeywords D [] >>= _) _ _ _
    refine wpAny_bind (wpAny_pure (wpAny_pure ?_))
    refine hR h' tk (fun b o h1 h2 e => hk' b o (by simpa using h2) (hk b o h1 h2 e)) ?_
    rw [List.drop_eq_nil_of_le (Nat.le_of_eq hps)]
    obtain ⟨o, es, ep, ho, r⟩ := hd
    exact ⟨o, es, ep, hk' _ _ (by simpa using hDI) ho, r⟩
  | succ j ih =>
    intro i s kvs hj hi hkl hit hl hk hd hR
    have hlt : i < its.size := nsubl hj
    have hlp : i < ps.length := hps.symm ▸ hlt
    refine codeAny_builtin entry_dul ?_
    rw [Around.under_plainId plain_dul _]
    show wpAny _ A.in1 (pyNext (.ref I) >>= _) _ _ s
    refine wpAny_bind (W.item i s _ _ hlt ⟨hit, hl⟩ fun v h' tk hv hst hk' => ?_)
    obtain ⟨T, k, t, x, c, rfl, hp, hT, hTD, hTI⟩ := hP i v hv
    have hT' := hk' _ _ (by simpa using hTI) (hk _ _ hTD hTI hT)
    have hd' : h'.DictOf (intKind prog w) D kvs := by
      obtain ⟨o, es, ep, ho, r⟩ := hd
      exact ⟨o, es, ep, hk' _ _ (by simpa using hDI) ho, r⟩
    refine wpAny_bind (wpAny_holding ?_)
    refine wpAny_bind ?_
    refine wpAny_tryCatch ?_
    unfold Builtin.Dict.pairItems
    refine wpAny_bind (wpAny_typeOf (T := "tuple") ⟨_, hT', rfl⟩ ?_)
    refine wpAny_ite_split (fun _ => ?_) (fun hab => absurd (by decide) hab)
    refine wpAny_bind (wpAny_seqItems hT' rfl ?_)
    refine wpAny_pure ?_
    show wpAny _ _ (holding [.int k t, x] (dictSet D (.int k t) x)) _ _ _
    refine wpAny_holding ?_
    refine wpAny_dictSet_pairs (knd := intKind prog w) (k := k) (by simp [intKind, Value.isInt]) hd' (fun h2 hd2 hs2 => ?_) (by rw [sizeLine_eq]; exact Nat.le_trans hkl (Nat.le_trans hi (Nat.le_trans hsz (by decide))))
    refine wpAny_pure ⟨plainId_quiet plain_dul _, ?_⟩
    refine ih (i + 1) _ (stored kvs k x) (nsub1 hj) hlt (Nat.le_trans (stored_len _ _ _) (Nat.succ_le_succ hkl)) (hst.1.at fun o e => hs2.extBut _ _ (Ne.symm hDI) e) (hst.2.at fun o e => hs2.extBut _ _ (Ne.symm hDl) e) (fun b o h1 h2 e => hs2.extBut _ _ h1 (hk' b o (by simpa using h2) (hk b o h1 h2 e))) hd2 ?_
    intro h3 tk3 hk3 hd3
    refine hR h3 tk3 hk3 ?_
    rw [List.drop_eq_getElem_cons hlp]
    have : ps[i] = (k, x) := by rw [List.getElem?_eq_getElem hlp] at hp; exact Option.some.inj hp
    rw [this]
    exact hd3
theorem list_keys_none : typeLookup (.type "list") (Str.ofString "keys") = pure none := am_miss_of_fast (by decide +kernel)
theorem dict_of_pairs {prog : Program} {w : World} {A : Around} {E : Value → Shared → Prop} {s : Shared} {Q : Value → Shared → Prop} (hh : A.handled = none) {l : Addr} {its : Array Value} {n : Nat} {ps : List (Int × Value)} (hps : ps.length = its.size) (hsz : its.size ≤ 4096)
    (hl : s.heap.get? l = some (listOf its n)) (hP : ∀ (i : Nat) (v : Value), its[i]? = some v → ∃ (T : Addr) (k : Int) (t : Tok) (x : Value) (c : Nat), v = Value.ref T ∧ ps[i]? = some (k, x) ∧ s.heap.get? T = some { cls := .type "tuple", data := .seq #[.int k t, x] c })
    (h : ∀ h' tk, (∀ b o, s.heap.get? b = some o → h'.get? b = some o) → h'.DictOf (intKind prog w) s.heap.objs.size (fillD [] ps) → Q (.ref s.heap.objs.size) { s with heap := h', toks := tk }) :
    wpAny (model prog w) A (call (.type "dict") [.ref l]) Q E s := by
  refine callType_codes (Q₁ := fun obj s₁ => obj = .ref s.heap.objs.size ∧ s₁ = { s with heap := s.heap.push { cls := .type "dict", data := .dict #[] } }) F.kt_called_dict (F.kt_typeCall_dict_1 _) F.entry_dict_init (kt_code_dict_new _ ⟨rfl, rfl⟩) ?_
  rintro obj s₁ ⟨rfl, rfl⟩
  have hnew : (s.heap.push { cls := .type "dict", data := .dict #[] }).DictOf (intKind prog w) s.heap.objs.size [] := Heap.DictOf.new s.heap
  have hl1 : (s.heap.push { cls := .type "dict", data := .dict #[] }).get? l = some (listOf its n) := Heap.get?_push_of_some _ hl
  have hDl : s.heap.objs.size ≠ l := Nat.ne_of_gt (Heap.lt_size hl)
  refine ⟨hnew.typeIs, F.args_dict_init_2 _ _, ?_⟩
  unfold Builtin.«dict.__init__»
  refine wpAny_bind ?_
  unfold Builtin.Dict.selfAndRest
  refine wpAny_bind (wpAny_notOrdered_dict hnew.typeIs ?_)
  show wpAny _ _ (pure (s.heap.objs.size, [Value.ref l])) _ _ _
  refine wpAny_pure ?_
  show wpAny _ _ (Builtin.Dict.updateFrom "dict.__init__" s.heap.objs.size (.ref l) [] .none) _ _ _
  unfold Builtin.Dict.updateFrom
  refine wpAny_bind (wpAny_typeOf (T := "list") ⟨_, hl1, rfl⟩ ?_)
  rw [if_pos (by decide)]
  refine wpAny_bind (getAttrQ_miss_list hl1 list_keys_none (by decide) hh (fun h2 tk2 hk2 => ?_) (by rw [sizeLine_eq]; decide))
  rw [if_pos (show (none : Option Value).isNone = true from rfl)]
  refine wpAny_bind (wpAny_rule ?_)
  have hl2 := hk2 _ _ hl1
  refine wpAny_bind (wpAny_pyIter_list ⟨_, hl2, rfl, n, rfl⟩ ?_)
  have hd2 : h2.DictOf (intKind prog w) s.heap.objs.size [] := by
    obtain ⟨o, es, ep, ho, r⟩ := hnew
    exact ⟨o, es, ep, hk2 _ _ ho, r⟩
  have hlI : l ≠ h2.objs.size := Nat.ne_of_lt (Heap.lt_size hl2)
  have hDI : s.heap.objs.size ≠ h2.objs.size := by obtain ⟨o, es, ep, ho, r⟩ := hd2; exact Nat.ne_of_lt (Heap.lt_size ho)
  have hk3 : ∀ b o, s.heap.get? b = some o → (h2.push { cls := .type "list_iterator", data := .fields #[.ref l, .int 0 0] }).get? b = some o := fun b o e => Heap.get?_push_of_some _ (hk2 _ _ (Heap.get?_push_of_some _ e))
  refine wpAny_pure ⟨plainId_quiet plain_dul _, ?_⟩
  refine dul_loop (prog := prog) (w := w) (A := A.in1) hh hps hlI hDI hDl hsz s.heap (fun i v hv => ?_) its.size 0 ({ s with heap := h2.push { cls := .type "list_iterator", data := .fields #[.ref l, .int 0 0] }, toks := tk2 } : Shared) [] rfl (Nat.zero_le _) (Nat.zero_le _) ⟨_, Heap.get?_push_size _ rfl, rfl, rfl⟩ ⟨listOf its n, Heap.get?_push_of_some _ hl2, rfl, n, rfl⟩ (fun b o _ _ e => ?_) ?_ ?_
  · obtain ⟨T, k, t, x, c, e1, e2, e3⟩ := hP i v hv
    refine ⟨T, k, t, x, c, e1, e2, e3, Nat.ne_of_lt (Heap.lt_size e3), Nat.ne_of_lt (Heap.lt_size (hk2 _ _ (Heap.get?_push_of_some _ e3)))⟩
  · exact hk3 b o e
  · obtain ⟨o, es, ep, ho, r⟩ := hd2
    exact ⟨o, es, ep, Heap.get?_push_of_some _ ho, r⟩
  · intro h' tk hk hd
    exact ⟨rfl, h h' tk (fun b o e => hk b o (Nat.ne_of_lt (Heap.lt_size e)) (Nat.ne_of_lt (Heap.lt_size (hk2 _ _ (Heap.get?_push_of_some _ e)))) e) hd⟩
theorem dict_pairs_K {prog : Program} {w : World} {A : Around} {E : Value → Shared → Prop} {s : Shared} {Q : Value → Shared → Prop} {h₀ : Heap} {L l : Addr} {m : Str → Option Value} {news : List (Addr × Obj)} {its : Array Value} {n : Nat} {ps : List (Int × Value)}
    (F : Fr h₀ L s.heap m) (N : News h₀ L s.heap news) (hbig : h₀.NoLimit) (hh : A.handled = none) (hl : (l, listOf its n) ∈ news) (hps : ps.length = its.size) (hsz : its.size ≤ 4096)
    (hP : ∀ (i : Nat) (v : Value), its[i]? = some v → ∃ (T : Addr) (k : Int) (t : Tok) (x : Value) (c : Nat), v = Value.ref T ∧ ps[i]? = some (k, x) ∧ (T, ({ cls := .type "tuple", data := .seq #[.int k t, x] c } : Obj)) ∈ news)
    (h : ∀ d h' tk o, Fr h₀ L h' m → News h₀ L h' ((d, o) :: news) → (∀ p ∈ news, p.1 < d) → (d == sysModules) = false → o.IsDictOf (intKind prog w) (fillD [] ps) → Q (.ref d) { s with heap := h', toks := tk }) :
    wpAny (model prog w) A (call (.type "dict") [.ref l]) Q E s := by
  refine dict_of_pairs hh hps hsz (N _ hl).1 (fun i v hv => ?_) fun h' tk hk hd => ?_
  · obtain ⟨T, k, t, x, c, e1, e2, e3⟩ := hP i v hv
    exact ⟨T, k, t, x, c, e1, e2, (N _ e3).1⟩
  · obtain ⟨o, ho, hd⟩ := Heap.dictOf_iff.mp hd
    refine h _ h' tk o (F.keeps hk) (fun p hp => ?_) (fun p hp => Heap.lt_size (N p hp).1) (F.notModules (modules_low hbig)) hd
    rcases List.mem_cons.mp hp with rfl | hp
    · exact ⟨ho, Nat.ne_of_gt F.ns.lt, next_is_new F⟩
    · exact (N.grown hk) p hp

def WtOk (kvs : List (Int × Value)) : Prop := (∀ (k : Int) (i : Nat), AL[i]? = some k → ∃ t, valueAt kvs k = some (.int i t)) ∧ (∀ k, k ∉ AL → valueAt kvs k = none)
theorem fillD_nodup (ps : List (Int × Value)) : ∀ (kvs : List (Int × Value)), ((kvs ++ ps).map (·.1)).Nodup → fillD kvs ps = kvs ++ ps := by
  induction ps with
  | nil => intro kvs _; simp [fillD]
  | cons p r ih =>
    intro kvs hn
    have hk : kvs.any (fun kv => kv.1 = p.1) = false := by
      rw [List.map_append, List.map_cons, List.nodup_append] at hn
      rw [Bool.eq_false_iff]
      intro h
      obtain ⟨q, hq, e⟩ := List.any_eq_true.mp h
      exact hn.2.2 q.1 (List.mem_map.mpr ⟨q, hq, rfl⟩) p.1 List.mem_cons_self (by simpa using e)
    have e : stored kvs p.1 p.2 = kvs ++ [p] := by unfold stored; rw [hk]; rfl
    show fillD (stored kvs p.1 p.2) r = _
    rw [e, ih (kvs ++ [p]) (by rw [List.append_assoc]; exact hn), List.append_assoc]; rfl
theorem AL_nodup : AL.Nodup := by decide
theorem wtOk_of (ps : List (Int × Value)) (h1 : ps.map (·.1) = AL) (h2 : ∀ (j : Nat) p, ps[j]? = some p → ∃ t, p.2 = .int j t) : WtOk (fillD [] ps) := by
  have hn : (ps.map (·.1)).Nodup := h1 ▸ AL_nodup
  rw [fillD_nodup ps [] (by simpa using hn), List.nil_append]
  refine ⟨fun k i hi => ?_, fun k hk => valueAt_none_of_not_mem (h1 ▸ hk)⟩
  rw [← h1, List.getElem?_map] at hi
  obtain ⟨p, hp, rfl⟩ := Option.map_eq_some_iff.mp hi
  obtain ⟨t, ht⟩ := h2 i p hp
  exact ⟨t, valueAt_of_get hn (by rw [hp]; obtain ⟨a, b⟩ := p; simp only at ht; rw [ht])⟩
/-- the table of worths comes back -/
abbrev RWT (w : World) (news : List (Addr × Obj)) : Cont := fun h₀ L m s Q _ => ∀ (D : Addr) (o : Obj) (kvs : List (Int × Value)) (h' : Heap) (tk' : Nat), o.IsDictOf (intKind Prg w) kvs → WtOk kvs → (D == sysModules) = false → Fr h₀ L h' m → News h₀ L h' ((D, o) :: news) → LCg.Off1 D news → Q (.ref D) { s with heap := h', toks := tk' }
theorem get_snoc {α : Type} {l : List α} {x p : α} {j : Nat} (h : (l ++ [x])[j]? = some p) : l[j]? = some p ∨ (j = l.length ∧ p = x) := by
  rcases Nat.lt_or_ge j l.length with hj | hj
  · rw [List.getElem?_append_left hj] at h; exact .inl h
  · rw [List.getElem?_append_right hj] at h
    rcases Nat.eq_zero_or_pos (j - l.length) with h0 | h0
    · rw [h0] at h; exact .inr ⟨Nat.le_antisymm (Nat.le_of_sub_eq_zero h0) hj, (Option.some.inj h).symm⟩
    · rw [List.getElem?_eq_none h0] at h; cases h
theorem get_app {α : Type} {l r : List α} {p : α} {j : Nat} (h : l[j]? = some p) : (l ++ r)[j]? = some p := by
  rcases Nat.lt_or_ge j l.length with hj | hj
  · rw [List.getElem?_append_left hj]; exact h
  · rw [List.getElem?_eq_none hj] at h; cases h
theorem worth_table_at (w : World) (news : List (Addr × Obj)) (al : Array UInt8) (t : Tok) (hal : KBw.bInts al = AL) : CG w 1 19 [.bytes al t] news (RWT w news) := by
  w_top off
  intro mean mg mb dp un gd cn cs a ccd cl outer A₀ base h₀ L m s Q E B F X N T hk hd hu hret
  refine wpAny_call ?_
  k_dflt (refine' code_defC ?k1 ?k2 ?k3 ?k4 ?k5 ?kA ?kF ?kK ?k6 ?k7 ?k8 ?k9 ?kB ?kD ?_ ?c2 ?c3 ?c4; (case kA => exact rfl); (case kF => exact rfl); (case kK => assumption); (case k1 => k_asm); (case k2 => k_asm); (case k3 => k_asm); (case k4 => k_asm); (case k5 => k_asm); (case k6 => k_is); (case k7 => k_is); (case k8 => ktr_room); (case k9 => exact BindsTo.of_eq rfl); (case kB => exact rfl); (case kD => decide +kernel); (case c2 => exact rfl); (case c3 => exact rfl); (case c4 => exact rfl); k_whole)
  intro g' L' h' tk' cells' FG' F' N' Y' B' X' T' l1
  obtain ⟨oA, hE, dA⟩ := CellsAre.one Y'; subst hE; clear Y'
  (try simp only [List.cons_append, List.nil_append] at N'); (try dsimp only); (try k_lift B'); (try k_fold); (try (refine let_AE ?_; intro A9q e9q)); (try ((with_reducible rename Fr _ _ _ _ => F9q); refine let_m F9q ?_; clear F9q; intro m9q F'))
  have hMC : MyComp := True.intro
  have hAL : AL.length = 64 := rfl
  have hmkP91 : OwnW := True.intro
  k_with "pyIter ref" => (guard_hyp hmkP91; k_dflt (refine' (id : Hold _ → _) ?_))
  (try k_fold)
  k_steps
  show wpAny _ _ _ _ _ _
  k_dflt (refine' cpU_range (n := 64) (σ := List (Addr × Obj) × List (Int × Value)) (fun c => (L' + 1, oA) :: (c.1 ++ news)) (fun i c ys => ys.length = i ∧ c.2.length = i ∧ (∀ (j : Nat) p, c.2[j]? = some p → ∃ t, p = (AL.getD j 0, Value.int j t)) ∧ ∀ (j : Nat) (v : Value), ys[j]? = some v → ∃ (T : Addr) (k : Int) (t : Tok) (x : Value) (z : Nat), v = Value.ref T ∧ c.2[j]? = some (k, x) ∧ (T, ({ cls := .type "tuple", data := .seq #[.int k t, x] z } : Obj)) ∈ c.1) ([], []) rfl (by assumption) ?_ ?_ ?_ ?_ ?_ ?_ ?_ ?_)
  · rw [hAL]; exact small_one (by decide) (by decide) (by decide) (by decide)
  · rw [hAL]; exact rsz_up (by decide)
  · decide
  · k_asm
  · show News _ _ _ ((L' + 1, oA) :: news)
    k_asm
  · exact ⟨rfl, rfl, (fun _ _ h => by simp at h), (fun _ _ h => by simp at h)⟩
  · intro i k t2 c ys I oI C oC D m₂ h1 tk E' hi hk hJ hC hx F' N' off ne
    obtain rfl : k = (i : Int) := by rw [hk, Int.zero_add, Int.mul_one]
    clear hk
    obtain ⟨j1, j2, j3, j4⟩ := hJ
    (try k_fold)
    k_steps
    refine' LCg.CompEnd.intro ?lpF ?lpN ((L' + 1, oA) :: (_ :: c.1 ++ news)) ?lpa ?lpo trivial ⟨(_ :: c.1, c.2 ++ [(AL.getD i 0, .int i t2)]), rfl, ?_, ?_, ?_, ?_⟩
    (case lpF => k_asm)
    (case lpN => k_asm)
    (case lpa => kcf_all)
    (case lpo => exact ⟨⟨off.1.1, off.1.2.1, off.1.2.2⟩, ⟨by k_ne, by k_ne, by k_ne⟩, off.2⟩)
    · rw [List.length_append, j1]; rfl
    · dsimp only; rw [List.length_append, j2]; rfl
    · intro j p hp
      rcases get_snoc hp with h | ⟨rfl, rfl⟩
      · exact j3 j p h
      · exact ⟨t2, by rw [j2]⟩
    · intro j v hv
      rcases get_snoc hv with h | ⟨rfl, rfl⟩
      · obtain ⟨T, k, t, x, z, e1, e2, e3⟩ := j4 j v h
        exact ⟨T, k, t, x, z, e1, get_app e2, List.mem_cons_of_mem _ e3⟩
      · refine ⟨_, _, _, _, _, rfl, ?_, List.mem_cons_self⟩
        dsimp only
        rw [j1, ← j2, List.getElem?_append_right (Nat.le_refl _), Nat.sub_self]
        rfl
  · intro g c ys hJ
    obtain ⟨j1, j2, j3, j4⟩ := hJ
    (try k_fold)
    k_steps
    k_dflt (refine' dict_pairs_K (ps := c.2) (its := ys.toArray) ?kF ?kN (Top.nolimit (by k_asm)) rfl ?kl ?kp ?kz ?kP ?_; (case kF => k_asm); (case kN => k_asm); (case kl => k_mem); (case kp => (rw [List.size_toArray, j1, j2])); (case kz => (rw [List.size_toArray]; omega)))
    (case kP =>
      intro i v hv
      obtain ⟨T, k, t, x, z, e1, e2, e3⟩ := j4 i v (by simpa using hv)
      exact ⟨T, k, t, x, z, e1, e2, List.mem_cons_of_mem _ (List.mem_cons_of_mem _ (List.mem_append_left _ e3))⟩)
    intro d h2 tk2 o F2 N2 l2 lo hd
    (try k_fold)
    k_steps
    have hwt : WtOk (fillD [] c.2) := by
      refine wtOk_of c.2 ?_ (fun j p hp => by obtain ⟨t, rfl⟩ := j3 j p hp; exact ⟨t, rfl⟩)
      apply List.ext_getElem?
      intro j
      rw [List.getElem?_map]
      by_cases hj : j < 64
      · obtain ⟨t, e⟩ := j3 j (c.2[j]'(j2.symm ▸ hj)) (List.getElem?_eq_getElem _)
        rw [List.getElem?_eq_getElem (j2.symm ▸ hj), e, List.getElem?_eq_getElem (hAL.symm ▸ hj)]
        simp [List.getD_eq_getElem?_getD, List.getElem?_eq_getElem (show j < AL.length from hAL.symm ▸ hj)]
      · rw [List.getElem?_eq_none (j2 ▸ Nat.le_of_not_lt hj), List.getElem?_eq_none (hAL ▸ Nat.le_of_not_lt hj)]; rfl
    refine' hret d o _ _ _ hd hwt lo ?cF ?cN (off1_lt fun p hp => l2 p ?_)
    (case cF => k_asm)
    (case cN => first | k_asm | (refine' cb_drop ?cbN ?cbS; (case cbN => assumption); (case cbS => kcj_all)))
    exact List.mem_cons_of_mem _ (List.mem_cons_of_mem _ (List.mem_append_right _ hp))

section
variable {prog : Program} {w : World} {A : Around} {E : Value → Shared → Prop} {s : Shared} {env : Env} {h₀ : Heap} {x : Str} {body : List Stmt} {Q : Flow → Shared → Prop} {σ : Type} {m₀ : Str → Option Value}
/-- where a loop is left by break -/
def LpB (h₀ : Heap) (L : Addr) (led : σ → List (Addr × Obj)) (ps : σ → List (Str × Value)) (x : Str) (stored : List Str) (m₀ : Str → Option Value) (K : σ → Prop) (s₁ s₂ : Shared) : Prop :=
  ∃ c h' tk m', s₂ = { s₁ with heap := h', toks := tk } ∧ Fr h₀ L h' m' ∧ News h₀ L h' (led c) ∧ (∀ p ∈ ps c, m' p.1 = some p.2) ∧ (∀ z, z ≠ x → (∀ p ∈ ps c, z ≠ p.1) → stored.contains z = false → m' z = m₀ z) ∧ K c
def BrkQ (h₀ : Heap) (L : Addr) (led : σ → List (Addr × Obj)) (ps : σ → List (Str × Value)) (x : Str) (stored : List Str) (m₀ : Str → Option Value) (K : σ → Prop) (s₁ : Shared) (Q : Flow → Shared → Prop) (f : Flow) (s₂ : Shared) : Prop :=
  match f with
  | .next => LpB h₀ L led ps x stored m₀ K s₁ s₂
  | f => Q f s₂
theorem LpB.intro {L : Addr} {led : σ → List (Addr × Obj)} {ps : σ → List (Str × Value)} {stored : List Str} {K : σ → Prop} (c : σ) {m' : Str → Option Value} {all : List (Addr × Obj)} {s₁ : Shared} {h' : Heap} {tk : Nat}
    (F : Fr h₀ L h' m') (N : News h₀ L h' all) (hn : ∀ p ∈ led c, p ∈ all) (hk : ∀ p ∈ ps c, m' p.1 = some p.2) (hr : ∀ z, z ≠ x → (∀ p ∈ ps c, z ≠ p.1) → stored.contains z = false → m' z = m₀ z) (hj : K c) :
    LpB h₀ L led ps x stored m₀ K s₁ { s₁ with heap := h', toks := tk } := ⟨c, h', tk, m', rfl, F, fun p hp => N p (hn p hp), hk, hr, hj⟩
theorem lp_bytesB {b : Array UInt8} {tb : Tok} {ks : List Int} (led : σ → List (Addr × Obj)) (ps : σ → List (Str × Value)) (stored : List Str) (J : Nat → σ → Prop) (K : σ → Prop) (c₀ : σ)
    (hb : KBw.bInts b = ks) (hh : A.handled = none) (F : Fr h₀ env.locals s.heap m₀) (N : News h₀ env.locals s.heap (led c₀)) (hk : ∀ p ∈ ps c₀, m₀ p.1 = some p.2) (hj : J 0 c₀) (hJK : Hold (∀ c, J ks.length c → K c))
    (turn : Hold (∀ (i : Nat) (k : Int) (t : Tok) (c : σ) (u : Str → Option Value) h tk own, ks[i]? = some k → 0 ≤ k → k < 256 → OwnOff own ((led c₀).map (·.1)) → J i c →
      Fr h₀ env.locals h (fun y => if y = x then some (.int k t) else kstB (fun z => if stored.contains z then u z else m₀ z) (ps c) y) → News h₀ env.locals h (led c ++ own) →
      wpAny (model prog w) A (execs body env) (InvPostN h₀ env.locals (LpS led ps x stored m₀ (J (i + 1))) own ((led c₀).map (·.1)) { s with heap := h, toks := tk } (BrkQ h₀ env.locals led ps x stored m₀ K { s with heap := h, toks := tk } Q)) E { s with heap := h, toks := tk }))
    (done : Hold (∀ (c : σ) (u : Str → Option Value) h tk, K c → Fr h₀ env.locals h (fun y => if y = x then u y else kstB (fun z => if stored.contains z then u z else m₀ z) (ps c) y) → News h₀ env.locals h (led c) → Q .next { s with heap := h, toks := tk })) :
    wpAny (model prog w) A (pyIter (.bytes b tb)) (fun it s₂ => LoopAtV prog w A h₀ env x body Q E it s₂) E s := by
  refine lp_bytesG led ps stored J c₀ hb hh F N hk hj ?_ (fun c u h tk hJ F' N' => done c u h tk (hJK c hJ) F' N')
  intro i k t c u h tk own hi h0 h1 hoff hJ F' N'
  refine wpAny_mono (turn i k t c u h tk own hi h0 h1 hoff hJ F' N') (fun f s₂ p => ?_) fun _ _ e => e
  cases f with
  | ret v => exact p
  | brk =>
    obtain ⟨c', h', tk', m', rfl, F₂, N₂, h1', h2', hK⟩ := p
    exact done c' m' h' tk' hK (kst_frOut h1' h2' F₂) N₂
  | next => exact p
  | cont => exact p
theorem lp_bytesB1 {l : Addr} {news : List (Addr × Obj)} {b : Array UInt8} {tb : Tok} {ks : List Int} (O : σ → Obj) (ps : σ → List (Str × Value)) (stored : List Str) (J : Nat → σ → Prop) (K : σ → Prop) (c₀ : σ)
    (hb : KBw.bInts b = ks) (hh : A.handled = none) (F : Fr h₀ env.locals s.heap m₀) (N : News h₀ env.locals s.heap ((l, O c₀) :: news)) (hk : ∀ p ∈ ps c₀, m₀ p.1 = some p.2) (hj : J 0 c₀) (hJK : Hold (∀ c, J ks.length c → K c))
    (turn : Hold (∀ (i : Nat) (k : Int) (t : Tok) (c : σ) (u : Str → Option Value) h tk own, ks[i]? = some k → 0 ≤ k → k < 256 → OwnOff own (l :: news.map (·.1)) → J i c →
      Fr h₀ env.locals h (fun y => if y = x then some (.int k t) else kstB (fun z => if stored.contains z then u z else m₀ z) (ps c) y) → News h₀ env.locals h ((l, O c) :: (news ++ own)) →
      wpAny (model prog w) A (execs body env) (InvPostN h₀ env.locals (LpS (fun c => (l, O c) :: news) ps x stored m₀ (J (i + 1))) own (l :: news.map (·.1)) { s with heap := h, toks := tk } (BrkQ h₀ env.locals (fun c => (l, O c) :: news) ps x stored m₀ K { s with heap := h, toks := tk } Q)) E { s with heap := h, toks := tk }))
    (done : Hold (∀ (c : σ) (u : Str → Option Value) h tk, K c → Fr h₀ env.locals h (fun y => if y = x then u y else kstB (fun z => if stored.contains z then u z else m₀ z) (ps c) y) → News h₀ env.locals h ((l, O c) :: news) → Q .next { s with heap := h, toks := tk })) :
    wpAny (model prog w) A (pyIter (.bytes b tb)) (fun it s₂ => LoopAtV prog w A h₀ env x body Q E it s₂) E s :=
  lp_bytesB (fun c => (l, O c) :: news) ps stored J K c₀ hb hh F N hk hj hJK turn done
end
section
variable {prog : Program} {w : World} {K : Type} [DecidableEq K] {knd : KeyKind prog w K} {A : Around} {E : Value → Shared → Prop} {s : Shared} {h₀ : Heap} {L d : Addr} {o : Obj} {m : Str → Option Value} {news : List (Addr × Obj)} {kvs : List (Int × Value)}
theorem wt_in {k : Int} {t : Tok} {Q : Value → Shared → Prop} (N : News h₀ L s.heap news) (hp : (d, o) ∈ news) (hd : o.IsDictOf (intKind prog w) kvs) (lo : (d == sysModules) = false) (hw : WtOk kvs)
    (h1 : ∀ i : Nat, AL[i]? = some k → Q (.bool true) { s with toks := s.toks + 1 }) (h2 : k ∉ AL → Q (.bool false) { s with toks := s.toks + 1 }) : wpAny (model prog w) A (compareOp .In (.int k t) (.ref d)) Q E s := by
  refine kda_in (knd := intKind prog w) (k := k) N hp hd lo (by simp [intKind, Value.isInt]) (valueAt kvs k).isSome rfl ?_
  by_cases hk : k ∈ AL
  · obtain ⟨i, hi⟩ := List.mem_iff_getElem?.mp hk
    obtain ⟨t', e⟩ := hw.1 k i hi
    rw [e]; exact h1 i hi
  · rw [hw.2 k hk]; exact h2 hk
theorem wt_item {k : Int} {i : Nat} {t : Tok} {value slice : PySem.Expr} {Q : Value → Shared → Prop} (N : News h₀ L s.heap news) (hp : (d, o) ∈ news) (hd : o.IsDictOf (intKind prog w) kvs) (hw : WtOk kvs) (hi : AL[i]? = some k)
    (h : ∀ t', Q (.int i t') { s with toks := s.toks + 1 })
    (hs : subscripted slice false (.ref d) (.int k t) = operate [.ref d, .int k t] (getItem (.ref d) (.int k t)) := by with_unfolding_all rfl)
    (ht : ∀ r, letTemporaryGo value (.ref d) r = pure () := by intro _; with_unfolding_all rfl) :
    wpAny (model prog w) A (subscriptTail value slice (.ref d) (.int k t)) Q E s := by
  obtain ⟨t', e⟩ := hw.1 k i hi
  exact kda_item (knd := intKind prog w) (k := k) N hp hd (by simp [intKind, Value.isInt]) e (h t') hs ht
end
theorem layR101 : True := by
  k_with "my BrkQ" => ((dsimp only [BrkQ]))
  k_with "my compareOp In int ref" => ((k_here; k_dflt (refine' wt_in ?kNZ9 ?kpZ9 (by assumption) (by assumption) (by assumption) (fun i'q hi'q => ?_) (fun hi'q => ?_); (case kNZ9 => k_asm); (case kpZ9 => k_mem))))
  k_with "my subscriptTail" => ((k_here; (with_reducible show wpAny _ _ (subscriptTail _ _ (Value.ref _) (Value.int _ _)) _ _ _); k_dflt (refine' wt_item ?kNZ9 ?kpZ9 (by assumption) (by assumption) (by assumption) (fun t'q => ?_); (case kNZ9 => k_asm); (case kpZ9 => k_mem))))
  k_with "my call ref" => ((k_here; (with_reducible show wpAny _ _ (PySem.call (Value.ref 19) _) _ _ _); k_dflt (refine' called (worth_table_at _ _ _ _ (by first | with_reducible assumption | exact rfl)) ?kBZ9 ?kFZ9 ?kXZ9 ?kNZ9 ?kTZ9 ?kKZ9 ?kDZ9 ?kUZ9 ?_; (case kBZ9 | kFZ9 | kXZ9 | kNZ9 | kTZ9 => k_asm); (case kKZ9 => first | exact rfl | assumption); (case kDZ9 => ktr_room); (case kUZ9 => ktr_units)); intro D'q o'q kvs'q h'q tk'q hd'q hw'q lo'q F'q N'q o1'q; (try simp only [LCg.Off1, and_true] at o1'q)))
  exact True.intro

def alx (k : Int) : Option Int := (AL.findIdx? (· = k)).map Int.ofNat
theorem alx_at {k : Int} {i : Nat} (h : AL[i]? = some k) : alx k = some (i : Int) := by
  have hl : i < AL.length := by
    rcases Nat.lt_or_ge i AL.length with h' | h'
    · exact h'
    · rw [List.getElem?_eq_none h'] at h; cases h
  have hh : ∀ j : Fin 64, alx (AL.getD j.1 0) = some (j.1 : Int) := by decide
  have := hh ⟨i, hl⟩
  rwa [List.getD_eq_getElem?_getD, h] at this
theorem alx_none {k : Int} (h : k ∉ AL) : alx k = none := by
  unfold alx
  rw [List.findIdx?_eq_none_iff.mpr (fun x hx => by simp; rintro rfl; exact h hx)]
  rfl
def wor (ks : List Int) : List Int := (ks.takeWhile (· ≠ 61)).filterMap alx
def dec64 (ks : List Int) : List Int := (List.range (((wor ks).length + 3) / 4)).flatMap fun i : Nat => if ((wor ks).length : Int) - 4 * (i : Int) > 1 then gos (((wor ks).drop (4 * i)).take 4) else []
theorem takeWhile_all {ks : List Int} {i : Nat} (h : ∀ c ∈ ks.take i, c ≠ 61) (hi : ks[i]? = some 61) : ks.takeWhile (· ≠ 61) = ks.take i := by
  induction ks generalizing i with
  | nil => simp at hi
  | cons a r ih =>
    cases i with
    | zero => simp at hi; subst hi; rfl
    | succ i =>
      rw [List.take_succ_cons] at h ⊢
      have ha : a ≠ 61 := h a List.mem_cons_self
      rw [List.takeWhile_cons_of_pos (by simpa using ha), ih (fun c hc => h c (List.mem_cons_of_mem _ hc)) (by simpa using hi)]
theorem takeWhile_full {ks : List Int} (h : ∀ c ∈ ks, c ≠ 61) : ks.takeWhile (· ≠ 61) = ks := by
  induction ks with
  | nil => rfl
  | cons a r ih => rw [List.takeWhile_cons_of_pos (by simpa using h a List.mem_cons_self), ih fun c hc => h c (List.mem_cons_of_mem _ hc)]
theorem wor_64 {ks : List Int} : ∀ z ∈ wor ks, 0 ≤ z ∧ z < 64 := by
  intro z hz
  obtain ⟨k, _, h⟩ := List.mem_filterMap.mp hz
  by_cases hk : k ∈ AL
  · obtain ⟨i, hi⟩ := List.mem_iff_getElem?.mp hk
    rw [alx_at hi] at h
    have : i < AL.length := by
      rcases Nat.lt_or_ge i AL.length with h' | h'
      · exact h'
      · rw [List.getElem?_eq_none h'] at hi; cases hi
    have e : AL.length = 64 := rfl
    have := Option.some.inj h
    omega
  · rw [alx_none hk] at h; cases h
theorem wor_cut {ks : List Int} {a b : Nat} : ∀ z ∈ ((wor ks).drop b).take a, 0 ≤ z ∧ z < 64 := fun z hz => wor_64 z (List.mem_of_mem_drop (List.mem_of_mem_take hz))
theorem cut4 (ks : List Int) {k : Int} (h : 0 ≤ k) : (ks.drop k.toNat).take (min (k + 4).toNat ks.length - k.toNat) = (ks.drop k.toNat).take 4 := by
  obtain ⟨a, rfl⟩ := Int.eq_ofNat_of_zero_le h
  show (ks.drop a).take (min (a + 4) ks.length - a) = (ks.drop a).take 4
  rcases Nat.le_total (a + 4) ks.length with h1 | h1
  · rw [Nat.min_eq_left h1, Nat.add_sub_cancel_left]
  · rw [Nat.min_eq_right h1, List.take_of_length_le (by rw [List.length_drop]; exact Nat.le_refl _), List.take_of_length_le (by rw [List.length_drop]; exact Nat.sub_le_of_le_add (Nat.add_comm a 4 ▸ h1))]
theorem g4_lo {ks : List Int} {k : Int} (h : 0 ≤ k) (h1 : 1 < (ks.length : Int) - k) : 2 ≤ ((ks.drop k.toNat).take (min (k + 4).toNat ks.length - k.toNat)).length := by
  rw [cut4 ks h, List.length_take, List.length_drop]; refine Nat.le_min.mpr ⟨by decide, ?_⟩
  obtain ⟨a, rfl⟩ := Int.eq_ofNat_of_zero_le h
  exact Nat.le_sub_of_add_le' (Int.ofNat_lt.mp (Int.add_lt_of_lt_sub_left h1))
theorem g4_hi {ks : List Int} {k : Int} (h : 0 ≤ k) : ((ks.drop k.toNat).take (min (k + 4).toNat ks.length - k.toNat)).length ≤ 4 := by
  rw [cut4 ks h, List.length_take]; exact Nat.min_le_left _ _
theorem flatten_filterMap {α β : Type} (p : α → Prop) [DecidablePred p] (f : α → List β) : ∀ l : List α, (l.filterMap fun j => if p j then some (f j) else none).flatten = l.flatMap fun j => if p j then f j else []
  | [] => rfl
  | a :: l => by
    rw [List.filterMap_cons, List.flatMap_cons, ← flatten_filterMap p f l]
    by_cases h : p a
    · rw [if_pos h, if_pos h]; rfl
    · rw [if_neg h, if_neg h]; rfl
theorem gos_length (ks : List Int) : (gos ks).length = ks.length - 1 := by unfold gos; rw [List.length_map, List.length_range]
theorem layP101 : True := by
  k_with "my call ref" => ((k_here; (with_reducible show wpAny _ _ (PySem.call (Value.ref 29) _) _ _ _); k_dflt (refine' called (group_octets_at _ _ _ _ _ _ (by with_reducible assumption) wor_cut (by first | exact g4_lo (by with_reducible assumption) (by with_reducible assumption) | omega) (by first | exact g4_hi (by with_reducible assumption) | omega)) ?kBZ9 ?kFZ9 ?kXZ9 ?kNZ9 ?kTZ9 ?kKZ9 ?kDZ9 ?kUZ9 ?_; (case kBZ9 | kFZ9 | kXZ9 | kNZ9 | kTZ9 => k_asm); (case kKZ9 => first | exact rfl | assumption); (case kDZ9 => ktr_room); (case kUZ9 => ktr_units)); intro T'q b'q t'q x'q t2'q h'q tk'q kbEq9 F'q N'q o1'q; (try simp only [LCg.Off1, and_true] at o1'q)))
  exact True.intro
structure Kq (P : Prop) : Prop where
  out : P
theorem i4 {i n : Nat} (h : i < (n + 3) / 4) : 4 * i < n := by omega
theorem decoded_at (w : World) (news : List (Addr × Obj)) (b : Array UInt8) (ks : List Int) (t : Tok) (hb : KBw.bInts b = ks) (hn : ks.length ≤ 4096) : CG w 3 63 [.bytes b t] news (RB news (dec64 ks)) := by
  w_top off
  intro mean mg mb dp un gd cn cs a ccd cl outer A₀ base h₀ L m s Q E B F X N T hk hd hu hret
  refine wpAny_call ?_
  k_dflt cell_enter
  (try (refine let_AE ?_; intro A9q e9q)); (try ((with_reducible rename Fr _ _ _ _ => F9q); refine let_m F9q ?_; clear F9q; intro m9q F'))
  have hmkP101 : OwnW := True.intro
  k_with "pyIter bytes" => (guard_hyp hmkP101; k_dflt (refine' lp_bytesB1 (σ := List Value × List Int × Nat) (fun c => listOf c.1.toArray c.2.2) (fun _ => []) [] (fun i c => IntsAre c.1 c.2.1 ∧ c.1.length ≤ i ∧ (∀ z ∈ ks.take i, z ≠ 61) ∧ c.2.1 = (ks.take i).filterMap alx) (fun c => IntsAre c.1 c.2.1 ∧ c.1.length ≤ 4096 ∧ c.2.1 = wor ks) ([], [], 0) hb rfl (by k_asm) (by k_asm) (fun _ hp => nomatch hp) ⟨.nil, Nat.le_refl _, (fun _ h => by simp at h), rfl⟩ ?_ ?_ ?_))
  (try k_fold)
  k_steps
  · rintro c ⟨hI, hl, hz, hJ⟩
    rw [List.take_length] at hz hJ
    exact ⟨hI, by omega, by unfold wor; rw [takeWhile_full hz]; exact hJ⟩
  · rintro i k t c u h1 tk own hi h0 h1 hoff ⟨hI, hl, hz, hJ⟩ F' N'
    have hi2 : i < ks.length := by rcases Nat.lt_or_ge i ks.length with h' | h'; exact h'; rw [List.getElem?_eq_none h'] at hi; cases hi
    simp only [List.cons_append] at N'
    (try k_fold)
    (try (refine let_m F' ?_; clear F'; intro m9q F'm))
    k_steps
    · rename (k = 61) => e; subst e
      refine' LpB.intro (_, _, _) ?lpF ?lpN ?lpn ?lpk ?lpr ?_
      (case lpF => k_asm)
      (case lpN => k_asm)
      (case lpn => kcf_all)
      (case lpk => first | exact List.forall_mem_nil _ | kst_all)
      (case lpr => (intro z9 h91 h92 h93; first | ((repeat (with_reducible refine lz_cond ?n9 ?_; (case n9 => first | exact h91 | exact lz_sto h93 rfl | exact lz_ps h92 rfl))); refine' (lz_off ?n9).trans ?_; (case n9 => first | exact lz_all h92 rfl | exact List.forall_mem_nil _); exact if_neg (lz_ns h93)) | ((try simp only [List.mem_cons, List.not_mem_nil, or_false, forall_eq, forall_eq_or_imp] at h92); first | (simp only [h91, if_false, kstB]; done) | (simp [kstB, h91, h92]; done) | (simp_all [kstB]; done))))
      exact ⟨hI, by dsimp only; omega, by unfold wor; rw [takeWhile_all hz hi]; exact hJ⟩
    · rename (k ≠ 61) => e; rename (AL[_]? = _) => e2
      have e3 := alx_at e2
      refine' lp_end (_, c.2.1 ++ (alx k).toList, _) ?lpF ?lpN ?lpn ?lpo ?lpa ?lpk ?lpr ?_
      (case lpF => k_asm)
      (case lpN => k_asm)
      (case lpn => kcf_all)
      (case lpo => kcf_all)
      (case lpa => exact rfl)
      (case lpk => first | exact List.forall_mem_nil _ | kst_all)
      (case lpr => (intro z9 h91 h92 h93; first | ((repeat (with_reducible refine lz_cond ?n9 ?_; (case n9 => first | exact h91 | exact lz_sto h93 rfl | exact lz_ps h92 rfl))); refine' (lz_off ?n9).trans ?_; (case n9 => first | exact lz_all h92 rfl | exact List.forall_mem_nil _); exact if_neg (lz_ns h93)) | ((try simp only [List.mem_cons, List.not_mem_nil, or_false, forall_eq, forall_eq_or_imp] at h92); first | (simp only [h91, if_false, kstB]; done) | (simp [kstB, h91, h92]; done) | (simp_all [kstB]; done))))
      refine ⟨by dsimp only; rw [e3]; exact ints_snoc' hI _ _, by dsimp only; rw [List.length_append, List.length_singleton]; omega, ?_, ?_⟩
      · rw [List.take_add_one, hi, Option.toList_some]; intro z hz2; rcases List.mem_append.mp hz2 with h | h; exact hz z h; rw [List.mem_singleton.mp h]; exact e
      · rw [List.take_add_one, hi, Option.toList_some, List.filterMap_append, List.filterMap_cons, e3]; dsimp only; rw [hJ]; rfl
    · rename (k ≠ 61) => e; rename (¬ k ∈ AL) => e2
      have e3 := alx_none e2
      refine' lp_end (_, c.2.1, _) ?lpF ?lpN ?lpn ?lpo ?lpa ?lpk ?lpr ?_
      (case lpF => k_asm)
      (case lpN => k_asm)
      (case lpn => kcf_all)
      (case lpo => kcf_all)
      (case lpa => exact rfl)
      (case lpk => first | exact List.forall_mem_nil _ | kst_all)
      (case lpr => (intro z9 h91 h92 h93; first | ((repeat (with_reducible refine lz_cond ?n9 ?_; (case n9 => first | exact h91 | exact lz_sto h93 rfl | exact lz_ps h92 rfl))); refine' (lz_off ?n9).trans ?_; (case n9 => first | exact lz_all h92 rfl | exact List.forall_mem_nil _); exact if_neg (lz_ns h93)) | ((try simp only [List.mem_cons, List.not_mem_nil, or_false, forall_eq, forall_eq_or_imp] at h92); first | (simp only [h91, if_false, kstB]; done) | (simp [kstB, h91, h92]; done) | (simp_all [kstB]; done))))
      refine ⟨hI, by dsimp only; omega, ?_, ?_⟩
      · rw [List.take_add_one, hi, Option.toList_some]; intro z hz2; rcases List.mem_append.mp hz2 with h | h; exact hz z h; rw [List.mem_singleton.mp h]; exact e
      · rw [List.take_add_one, hi, Option.toList_some, List.filterMap_append, List.filterMap_cons, e3]; dsimp only; rw [hJ]; simp
  · rintro c u h1 tk ⟨hI, hl, hJ⟩ F' N'
    have hl2 := hI.length
    rw [hJ] at hI hl2
    have hwl : (wor ks).length ≤ 4096 := hl2 ▸ hl
    have hmkP102 : OwnW := True.intro
    k_with "pyIter ref" => (guard_hyp hmkP102; k_dflt (refine' lp_range (n := ((wor ks).length + 3) / 4) (σ := List Value × Nat) (fun c => listOf c.1.toArray c.2) (fun _ => []) [] (fun i c => c.1.length ≤ i ∧ BtsAre c.1 ((List.range i).filterMap fun j : Nat => if ((wor ks).length : Int) - 4 * (j : Int) > 1 then some (gos (((wor ks).drop (4 * j)).take 4)) else none)) ([], 0) rfl (by assumption) (small_step (by omega) (by omega) (by omega) (by omega)) (rsz_step (by omega) (by omega) (by omega)) (by k_asm) (by k_asm) (fun _ hp => nomatch hp) ⟨Nat.le_refl _, .nil⟩ ?_ ?_))
    (try k_fold)
    (try (refine let_m F' ?_; clear F'; intro m9q F'm))
    k_steps
    · rintro i k t c2 u h1 tk own hi hk hoff ⟨hl3, hJ2⟩ F' N'
      have hk9 : k = ((4 * i : Nat) : Int) := by rw [hk, Int.zero_add, Int.mul_comm]; rfl
      have hk0 : 0 ≤ k := hk9 ▸ Int.natCast_nonneg _
      have hk1 : k < (wor ks).length := hk9 ▸ Int.ofNat_lt.mpr (i4 hi)
      replace hk9 := Kq.mk hk9
      simp only [List.cons_append] at N'
      (try k_fold)
      (try (refine let_m F' ?_; clear F'; intro m9q F'm))
      k_steps
      · rename (KBw.bInts _ = gos _) => hB
        rw [cut4 _ hk0, show k.toNat = 4 * i from congrArg Int.toNat hk9.out] at hB
        refine' lp_end (_, _) ?lpF ?lpN ?lpn ?lpo ?lpa ?lpk ?lpr ?_
        (case lpF => k_asm)
        (case lpN => k_asm)
        (case lpn => kcf_all)
        (case lpo => kcf_all)
        (case lpa => exact rfl)
        (case lpk => first | exact List.forall_mem_nil _ | kst_all)
        (case lpr => (intro z9 h91 h92 h93; first | ((repeat (with_reducible refine lz_cond ?n9 ?_; (case n9 => first | exact h91 | exact lz_sto h93 rfl | exact lz_ps h92 rfl))); refine' (lz_off ?n9).trans ?_; (case n9 => first | exact lz_all h92 rfl | exact List.forall_mem_nil _); exact if_neg (lz_ns h93)) | ((try simp only [List.mem_cons, List.not_mem_nil, or_false, forall_eq, forall_eq_or_imp] at h92); first | (simp only [h91, if_false, kstB]; done) | (simp [kstB, h91, h92]; done) | (simp_all [kstB]; done))))
        refine ⟨by dsimp only; rw [List.length_append, List.length_singleton]; omega, ?_⟩
        rw [List.range_succ, List.filterMap_append, List.filterMap_cons, if_pos (by rename (1 < _ - k) => hg; rw [hk9.out] at hg; exact hg)]
        exact hJ2.snoc hB
      · skip
        refine' lp_end (_, _) ?lpF ?lpN ?lpn ?lpo ?lpa ?lpk ?lpr ?_
        (case lpF => k_asm)
        (case lpN => k_asm)
        (case lpn => kcf_all)
        (case lpo => kcf_all)
        (case lpa => exact rfl)
        (case lpk => first | exact List.forall_mem_nil _ | kst_all)
        (case lpr => (intro z9 h91 h92 h93; first | ((repeat (with_reducible refine lz_cond ?n9 ?_; (case n9 => first | exact h91 | exact lz_sto h93 rfl | exact lz_ps h92 rfl))); refine' (lz_off ?n9).trans ?_; (case n9 => first | exact lz_all h92 rfl | exact List.forall_mem_nil _); exact if_neg (lz_ns h93)) | ((try simp only [List.mem_cons, List.not_mem_nil, or_false, forall_eq, forall_eq_or_imp] at h92); first | (simp only [h91, if_false, kstB]; done) | (simp [kstB, h91, h92]; done) | (simp_all [kstB]; done))))
        refine ⟨by dsimp only; omega, ?_⟩
        rw [List.range_succ, List.filterMap_append, List.filterMap_cons, if_neg (by rename (¬ 1 < _ - k) => hg; rw [hk9.out] at hg; exact hg)]
        simpa using hJ2
    · rintro c2 u h1 tk ⟨hl3, hJ2⟩ F' N'
      (try k_fold)
      (try (refine let_m F' ?_; clear F'; intro m9q F'm))
      k_steps
      k_dflt (refine' bytes_join (kss := _) (sep := []) rfl (by is_list) hJ2 ?_ ?_)
      · rw [joinL_nil, flatten_filterMap]
        have := flatMap_le (fun j : Nat => if ((wor ks).length : Int) - 4 * (j : Int) > 1 then gos (((wor ks).drop (4 * j)).take 4) else []) 3 (List.range (((wor ks).length + 3) / 4)) (fun a _ => by
          split
          · rw [gos_length, List.length_take]; exact Nat.sub_le_sub_right (Nat.min_le_left 4 _) 1
          · simp)
        rw [List.length_range] at this
        exact Nat.le_trans this (Nat.le_trans (Nat.mul_le_mul_left 3 (Nat.le_trans (Nat.div_le_self _ 4) (Nat.add_le_add_right hwl 3))) (by decide))
      · intro b' t' k' hb'
        (try k_fold)
        (try (refine let_m F' ?_; clear F'; intro m9q F'm))
        k_steps
        refine' gBytes (Q := Q) hret ?_ ?cF ?cN
        (case cF => k_asm)
        (case cN => first | k_asm | (refine' cb_drop ?cbN ?cbS; (case cbN => assumption); (case cbS => kcj_all)))
        rw [hb', joinL_nil]
        unfold dec64
        exact flatten_filterMap _ _ _
theorem layP102 : True := by
  k_with "my call ref" => ((k_here; (with_reducible show wpAny _ _ (PySem.call (Value.ref 63) _) _ _ _); k_dflt (refine' called (decoded_at _ _ _ _ _ (by kba_ints) (by omega)) ?kBZ9 ?kFZ9 ?kXZ9 ?kNZ9 ?kTZ9 ?kKZ9 ?kDZ9 ?kUZ9 ?_; (case kBZ9 | kFZ9 | kXZ9 | kNZ9 | kTZ9 => k_asm); (case kKZ9 => first | exact rfl | assumption); (case kDZ9 => ktr_room); (case kUZ9 => ktr_units)); intro b'q t'q h'q tk'q kbEq9 F'q N'q))
  exact True.intro

section
variable {prog : Program} {w : World} {A : Around} {E : Value → Shared → Prop} {s : Shared} {h₀ : Heap} {L : Addr} {m : Str → Option Value} {env : Env} {elt ct iter : Expr} {x : Str} {scope : Scope} {cl : List (Str × Addr)} {n : Nat} {σ : Type} {news : List (Addr × Obj)} {Fin : Shared → List Value → List (Addr × Obj) → Prop}
def TupSrc (h₀ : Heap) (ax : Addr) (its : Array Value) (news : List (Addr × Obj)) : Prop := h₀.IsTuple ax its ∨ ∃ o, (ax, o) ∈ news ∧ o.cls = .type "tuple" ∧ ∃ n, o.data = .seq its n
theorem TupSrc.tup {h₀ h : Heap} {L ax : Addr} {its : Array Value} {news : List (Addr × Obj)} (x : TupSrc h₀ ax its news) (k : ∀ b o, h₀.get? b = some o → h.get? b = some o) (N : News h₀ L h news) : h.IsTuple ax its := by
  rcases x with ⟨o, e, r⟩ | ⟨o, hm, r⟩
  · exact ⟨o, k _ _ e, r⟩
  · exact ⟨o, (N _ hm).1, r⟩
theorem tup_st {h₀ : Heap} {L ax I : Addr} {its : Array Value} : ∀ i (h h' : Heap) (o : Obj) (nw : List (Addr × Obj)), (h.IsTupleIter I ax i ∧ h.IsTuple ax its) → h.get? I = some o → h'.get? I = some o → (∀ b o, h₀.get? b = some o → h'.get? b = some o) → News h₀ L h' nw → TupSrc h₀ ax its nw → (h'.IsTupleIter I ax i ∧ h'.IsTuple ax its) :=
  fun i h h' o nw st e e' k N S => ⟨by obtain ⟨o', q, r⟩ := st.1; rw [e] at q; cases q; exact ⟨o, e', r⟩, S.tup k N⟩
theorem itok_tup {ax : Addr} {its : Array Value} (hh : A.handled = none) (hsz : its.size ≤ 16777216) (hS : TupSrc h₀ ax its news) (F : Fr h₀ L s.heap m) (N : News h₀ L s.heap news) :
    ItOk prog w A h₀ L m { s with heap := s.heap.push { cls := .type "tuple_iterator", data := .fields #[.ref ax, .int 0 0] } } (.ref s.heap.objs.size) its.size (fun i v => its[i]? = some v) (TupSrc h₀ ax its) news := by
  have hl := hS.tup F.keep N
  have hlt : ax < s.heap.objs.size := by obtain ⟨_, e, _⟩ := hl; exact Heap.lt_size e
  refine ⟨s.heap.objs.size, _, _, rfl, Walks.tuple hh _ ax (Nat.ne_of_lt hlt) its, by rw [sizeLine_eq]; exact hsz, fun i h st => by obtain ⟨o, e, _⟩ := st.1; exact ⟨o, e⟩, tup_st, ⟨⟨_, Heap.get?_push_size _ rfl, rfl, rfl⟩, hl.push _⟩, fun b hb => ?_,
    F.keeps fun _ _ e => Heap.get?_push_of_some _ e, N.grown fun _ _ e => Heap.get?_push_of_some _ e, Nat.ne_of_lt F.ns.lt, next_is_new F, fun p hp => Nat.ne_of_lt (Heap.lt_size (N p hp).1), hS⟩
  show b < (s.heap.push _).objs.size
  rw [Heap.size_push]
  rcases List.mem_cons.mp hb with rfl | hb
  · exact Nat.lt_succ_self _
  · rw [List.mem_singleton.mp hb]; exact Nat.lt_succ_of_lt hlt

theorem cpT_tup {ax : Addr} {its : Array Value} (led : σ → List (Addr × Obj)) (J : Nat → σ → List Value → Prop) (c₀ : σ)
    (hh : A.handled = none) (hsz : its.size ≤ 16777216) (hS : TupSrc h₀ ax its (led c₀)) (F : Fr h₀ L s.heap m) (N : News h₀ L s.heap (led c₀)) (hj : J 0 c₀ [])
    (turn : Hold (∀ (i : Nat) (v : Value) (c : σ) ys I oI C oC D m₂ h tk (E' : Value → Shared → Prop), its[i]? = some v → J i c ys → LCg.NsObj oC m₂ → m₂ x = some (v) → Fr h₀ L h m → News h₀ L h ((I, oI) :: (C, oC) :: (D, LCg.lst ys) :: led c) → LCg.Off3 I C D (led c) → ((@Ne Nat I C) ∧ (@Ne Nat I D) ∧ (@Ne Nat C D)) →
      wpAny (model prog w) A (isTrue ct (compEnvC scope cl C env) (eval ct (compEnvC scope cl C env))) (fun ok s' => if ok = true then
        wpAny (model prog w) A (eval elt (compEnvC scope cl C env)) (LCg.CompEnd h₀ L m { s with heap := h, toks := tk } I oI C oC D (LCg.lst ys) (TupSrc h₀ ax its) (fun y news' => ∃ c', news' = led c' ∧ J (i + 1) c' (ys ++ [y]))) E' s'
        else LCg.CompEnd h₀ L m { s with heap := h, toks := tk } I oI C oC D (LCg.lst ys) (TupSrc h₀ ax its) (fun _ news' => ∃ c', news' = led c' ∧ J (i + 1) c' ys) Value.none s') E' { s with heap := h, toks := tk }))
    (fin : Hold (∀ g c ys, J its.size c ys → Fin { s with heap := g } ys (led c))) :
    wpAny (model prog w) A (pyIter (.ref ax)) (CpT prog w A h₀ L m env ct elt x scope cl Fin) E s := by
  refine wpAny_pyIter_tuple (hS.tup F.keep N) ⟨_, _, _, _, itok_tup hh hsz hS F N, restT led J c₀ hj ?_ ?_⟩
  · rintro i v c ys I oI C oC D m₂ h tk E' hi hv hJ hC hx F₁ N₁ off ne
    exact turn i v c ys I oI C oC D m₂ h tk E' hv hJ hC hx F₁ N₁ off ne
  · exact fun c ys hJ => fin _ c ys hJ

end

/-- an exception object -/
abbrev exo (C t : Addr) (dd : Option Addr) : Obj := { cls := .ref C, dict := dd, data := .fields #[.ref t, .none, .none, .none, .bool false, .none] }
abbrev RX (x C : Addr) (what : Value) (news : List (Addr × Obj)) : Cont := fun h₀ L m s Q _ => ∀ (t' d' : Addr) (oD : Obj) (h' : Heap) (tk' : Nat), Fr h₀ L h' m → News h₀ L h' ((x, exo C t' (some d')) :: (d', oD) :: (t', ({ cls := .type "tuple", data := .seq #[what] } : Obj)) :: news) → (∀ p ∈ news, p.1 < t') → Q .none { s with heap := h', toks := tk' }
theorem meta_Exception : typeOf (.type "Exception") = pure (.type "type") := by kernel_rfl
section
variable {prog : Program} {w : World} {A : Around} {E : Value → Shared → Prop} {s : Shared} {h₀ : Heap} {L C x t : Addr} {m : Str → Option Value} {news : List (Addr × Obj)} {K : Frag} {v : Value}
theorem exo_inst (N : News h₀ L s.heap news) {dd : Addr} {oD : Obj} (h1 : (x, exo C t (some dd)) ∈ news) (h2 : (dd, oD) ∈ news) : InstAt s.heap x (exo C t (some dd)) C (some oD) := ⟨(N _ h1).1, rfl, rfl, (N _ h2).1⟩
theorem exo_inst0 (N : News h₀ L s.heap news) (h1 : (x, exo C t none) ∈ news) : InstAt s.heap x (exo C t none) C none := ⟨(N _ h1).1, rfl, rfl, trivial⟩
theorem bxi_call {Q : Value → Shared → Prop} (F : Fr h₀ L s.heap m) (X₀ : K.In h₀) (N : News h₀ L s.heap ((x, exo C t none) :: news)) (hsub : subIn K (.ref C) (.type "Exception") = some true) {cd : ClassData} (hcd : clsIn K C = some cd) (off : ∀ p ∈ news, p.1 ≠ x)
    (h : ∀ t' h', Fr h₀ L h' m → News h₀ L h' ((x, exo C t' none) :: (t', ({ cls := .type "tuple", data := .seq #[v] } : Obj)) :: news) → (∀ p ∈ (x, exo C t none) :: news, p.1 < t') → Q .none { s with heap := h' }) :
    wpAny (model prog w) A (call (.builtin "Exception.__init__") [.ref x, v]) Q E s := by
  have G := PySem.F.excBase_Exception
  have X := X₀.keeps F.keep
  have I := exo_inst0 N List.mem_cons_self
  have sub : Looks (model prog w) s.heap (isInstance (.ref x) (.type "Exception")) true := I.type.andThen (looks_subIn X hsub)
  refine wpAny_call (codeAny_call_builtin G.init.plain G.initEntry ?_)
  simp only [checkBuiltinCall, G.initKind, G.initSplit, G.initRow]
  refine wpAny_bind (sub.here ?_)
  simp only [Bool.not_true, Bool.false_eq_true, if_false]
  have hshort := G.noStar
  have hx := (N _ List.mem_cons_self).1
  repeat (first | (with_reducible refine wpAny_loadPart hx ?_) | (with_reducible refine (looks_clsIn X hcd).here ?_) | (with_reducible refine (looks_subIn X hsub).here ?_) | wp_step)
  have N1 : News h₀ L (s.heap.push { cls := .type "tuple", data := .seq #[v] }) ([] ++ (x, exo C t none) :: ((s.heap.objs.size, ({ cls := .type "tuple", data := .seq #[v] } : Obj)) :: news)) := fun p hp => by
    rcases List.mem_cons.mp hp with rfl | hp
    · exact (N.push F _) _ (.tail _ (.head _))
    · rcases List.mem_cons.mp hp with rfl | hp
      · exact (N.push F _) _ (.head _)
      · exact (N.push F _) _ (.tail _ (.tail _ hp))
  obtain ⟨U1, U2⟩ := news_upd (o' := exo C s.heap.objs.size none) (f := Obj.mapFields (·.setIfInBounds 0 (Value.ref s.heap.objs.size))) (F.push _) N1 (fun _ hp => nomatch hp) (fun p hp => by
    rcases List.mem_cons.mp hp with rfl | hp
    · exact Nat.ne_of_gt (Heap.lt_size hx)
    · exact off p hp) rfl rfl
  exact h _ _ U1 U2 fun p hp => Heap.lt_size (N p hp).1
theorem refuse_exc (self : Value) (a b : Addr) : refuseLoop self "__setattr__" [.ref a, .ref b, .type "Exception", .type "BaseException", .type "object"] = pure () := by
  rw [refuseLoop_ref, refuseLoop_ref]
  kernel_rfl
theorem xs_open {R : Result → Shared → Prop} {ox : Obj} {od : Option Obj} {name : Str} {tk : Tok} {cd : ClassData} (X : K.In s.heap) (I : InstAt s.heap x ox C od) (hcd : clsIn K C = some cd) (hsub : subIn K (.ref C) (.type "object") = some true)
    (hr : ∀ self, refuseLoop self "__setattr__" cd.mro = pure ()) (ht : takerIn K C name = some none)
    (h : ∀ b, wpAny (model prog w) A.in1 (Builtin.ObjectAttr.storeInOwnDict (.ref x) (.ref C) (.str name tk) name v b)
      (fun fin s' => match fin with | .done f => R (.ok f) s' | .again c' => c'.quiet = true ∧ codeAny (model prog w) A c' R s') (fun e s' => R (.error e) s') s) :
    codeAny (model prog w) A (.call (.builtin "object.__setattr__") ⟨[.ref x, .str name tk, v], []⟩) R s := by
  have SF := PySem.F.store_object
  have sub : Looks (model prog w) s.heap (isInstance (.ref x) (.type "object")) true := I.type.andThen (looks_subIn X hsub)
  refine codeAny_call_builtin SF.slot.plain SF.entry (@check_slot (model prog w) _ _ s "object.__setattr__" "object" "__setattr__" (.ref x) [.str name tk, v] [] _ SF.kind SF.split sub (SF.args (.ref x) (.str name tk) v) ?_)
  obtain ⟨attr, ha, hr2⟩ := Option.bind_eq_some_iff.mp ht
  have hm : Looks (model prog w) s.heap (mroOf (.ref C)) cd.mro := (looks_clsIn X hcd).andThen .now
  have L3 : Looks (model prog w) s.heap (Builtin.ObjectAttr.storeTaker? attr) none := by
    cases attr with
    | none => exact .now
    | some a =>
      obtain ⟨b, hb, e⟩ := Option.map_eq_some_iff.mp hr2
      refine (looks_takesIn X hb).andThen ?_
      cases b with
      | false => exact .now
      | true => cases e
  rw [osa_eq, refuse_eq]
  refine wpAny_bind (wpAny_bind (I.type.here (wpAny_bind (hm.here ?_))))
  rw [hr]
  refine wpAny_pure (wpAny_bind (I.type.here (wpAny_bind ((looks_findIn X ha).here (wpAny_bind (L3.here ?_))))))
  exact h _
theorem store_tail {Qf : PySem.Fin → Shared → Prop} {name : Str} {tk : Tok} {dx : Addr} {es es' : List DictEntry} {n n' : Nat} {pre post : List (Addr × Obj)} (F : Fr h₀ L s.heap m) (N : News h₀ L s.heap (pre ++ (dx, dictOf es n) :: post)) (hl : (getL name es).isSome = true) (h1 : ∀ p ∈ pre, p.1 ≠ dx) (h2 : ∀ p ∈ post, p.1 ≠ dx)
    (e : (putL name (PyData.keyHash w.params name) (.str name s.toks) v es, putN name es n) = (es', n')) (hz : es'.length ≤ 1000)
    (h : ∀ h', Fr h₀ L h' m → News h₀ L h' (pre ++ (dx, dictOf es' n') :: post) → Qf (.done (.ret .none)) { s with heap := h', toks := s.toks + 1 }) :
    wpAny (model prog w) A (Builtin.ObjectAttr.storeInDict dx (.str name tk) name v) Qf E s := by
  obtain ⟨e1, e2⟩ := Prod.mk.inj e
  have e3 : Obj.putName name (PyData.keyHash w.params name) (.str name s.toks) v (dictOf es n) = dictOf es' n' := by rw [putName_dict, e1, e2]
  obtain ⟨U1, U2⟩ := news_upd (f := Obj.putName name (PyData.keyHash w.params name) (.str name s.toks) v) F N h1 h2 e3 rfl
  have D := (N (dx, dictOf es n) (by simp)).1
  have D' := (U2 (dx, dictOf es' n') (by simp)).1
  refine wpAny_bind (wpAny_pure (wpAny_bind ?_))
  unfold nsSet
  refine wpAny_bind (wpAny_bind (wpAny_askSetting (wpAny_pure (wpAny_bind (wpAny_mkText (wpAny_bind (wpAny_loadPart D ?_)))))))
  dsimp only
  have c : (!es.any (·.key.isStr name) && es.any (·.refKey)) = false := by
    unfold getL at hl
    split at hl
    · rename_i en he
      rw [List.any_eq_true.mpr ⟨en, List.mem_of_find?_eq_some he, List.find?_some he⟩]; rfl
    · split at hl
      · cases hl
      · rename_i z; rw [Bool.not_eq_true] at z; rw [z, Bool.and_false]
  rw [aRefKeyMayBeTheName_at, List.any_toArray, List.any_toArray, c]
  refine wpAny_updatePart D ?_
  refine wpAny_bind (wpAny_lookBehind D' (pastItsLine_dict (by rw [List.size_toArray, sizeLine_eq]; omega)) ?_)
  exact wpAny_pure (h _ U1 U2)
theorem xset1 {Q : Unit → Shared → Prop} {name : Str} {cd : ClassData} (F : Fr h₀ L s.heap m) (X₀ : K.In h₀) (N : News h₀ L s.heap ((x, exo C t none) :: news)) (off : ∀ p ∈ news, p.1 ≠ x)
    (hs : findIn K (.ref C) "__setattr__" = some (some (.builtin "object.__setattr__"))) (hcd : clsIn K C = some cd) (hsub : subIn K (.ref C) (.type "object") = some true) (hr : ∀ self, refuseLoop self "__setattr__" cd.mro = pure ()) (ht : takerIn K C name = some none) (hh : cd.hasDict = true)
    (h : ∀ d h', Fr h₀ L h' m → News h₀ L h' ((x, exo C t (some d)) :: (d, dictOf [⟨PyData.keyHash w.params name, .str name (s.toks + 1), v⟩] 1) :: news) → (∀ p ∈ (x, exo C t none) :: news, p.1 < d) → Q () { s with heap := h', toks := s.toks + 2 }) :
    wpAny (model prog w) A (setAttr (.ref x) name v) Q E s := by
  have X := X₀.keeps F.keep
  refine set_plain X (exo_inst0 N List.mem_cons_self) hs (xs_open (s := { s with toks := s.toks + 1 }) X (exo_inst0 N List.mem_cons_self) hcd hsub hr ht fun b => ?_)
  have hx := (N _ List.mem_cons_self).1
  have X' : K.In ({ s with toks := s.toks + 1 } : Shared).heap := X
  refine wpAny_bind (wpAny_pure (wpAny_bind (wpAny_bind (wpAny_loadPart hx (wpAny_bind ((looks_clsIn X' hcd).here ?_))))))
  rw [hh]
  show wpAny _ _ (alloc emptyDict >>= fun d => _) _ _ _
  refine wpAny_bind (wpAny_alloc ?_)
  refine wpAny_bind (wpAny_update (Heap.get?_push_of_some _ hx) ?_)
  refine wpAny_pure (wpAny_bind (wpAny_pure ?_))
  show wpAny _ _ (Builtin.ObjectAttr.storeInDict s.heap.objs.size (.str name (s.toks)) name v) _ _ _
  have N1 : News h₀ L (s.heap.push emptyDict) ([] ++ (x, exo C t none) :: ((s.heap.objs.size, emptyDict) :: news)) := fun p hp => by
    rcases List.mem_cons.mp hp with rfl | hp
    · exact (N.push F _) _ (.tail _ (.head _))
    · rcases List.mem_cons.mp hp with rfl | hp
      · exact (N.push F _) _ (.head _)
      · exact (N.push F _) _ (.tail _ (.tail _ hp))
  obtain ⟨U1, U2⟩ := news_upd (o' := exo C t (some s.heap.objs.size)) (f := fun o => { o with dict := some s.heap.objs.size }) (F.push _) N1 (fun _ hp => nomatch hp) (fun p hp => by
    rcases List.mem_cons.mp hp with rfl | hp
    · exact Nat.ne_of_gt (Heap.lt_size hx)
    · exact off p hp) rfl rfl
  refine store_tail (pre := [(x, exo C t (some s.heap.objs.size))]) (post := news) (es := []) (n := 0) U1 U2 rfl (fun p hp => ?_) (fun p hp => Nat.ne_of_lt (Heap.lt_size (N p (.tail _ hp)).1)) rfl (Nat.le_of_ble_eq_true rfl) fun h' F' N' => ?_
  · rw [List.mem_singleton.mp hp]; exact Nat.ne_of_lt (Heap.lt_size hx)
  · exact h _ _ F' N' fun p hp => Heap.lt_size (N p hp).1
theorem xset2 {Q : Unit → Shared → Prop} {name : Str} {cd : ClassData} {dx : Addr} {es es' : List DictEntry} {n n' : Nat} (F : Fr h₀ L s.heap m) (X₀ : K.In h₀) (N : News h₀ L s.heap ((x, exo C t (some dx)) :: (dx, dictOf es n) :: news)) (hne : x ≠ dx) (off : ∀ p ∈ news, p.1 ≠ dx)
    (hs : findIn K (.ref C) "__setattr__" = some (some (.builtin "object.__setattr__"))) (hcd : clsIn K C = some cd) (hsub : subIn K (.ref C) (.type "object") = some true) (hr : ∀ self, refuseLoop self "__setattr__" cd.mro = pure ()) (ht : takerIn K C name = some none) (hh : cd.hasDict = true)
    (hl : (getL name es).isSome = true) (e : (putL name (PyData.keyHash w.params name) (.str name (s.toks + 1)) v es, putN name es n) = (es', n')) (hz : es'.length ≤ 1000)
    (h : ∀ h', Fr h₀ L h' m → News h₀ L h' ((x, exo C t (some dx)) :: (dx, dictOf es' n') :: news) → Q () { s with heap := h', toks := s.toks + 2 }) :
    wpAny (model prog w) A (setAttr (.ref x) name v) Q E s := by
  have X := X₀.keeps F.keep
  have I := exo_inst N List.mem_cons_self (.tail _ (.head _))
  refine set_plain X I hs (xs_open (s := { s with toks := s.toks + 1 }) X I hcd hsub hr ht fun b => ?_)
  have hx := (N _ List.mem_cons_self).1
  have X' : K.In ({ s with toks := s.toks + 1 } : Shared).heap := X
  refine wpAny_bind (wpAny_pure (wpAny_bind (wpAny_bind (wpAny_loadPart hx (wpAny_bind ((looks_clsIn X' hcd).here ?_))))))
  rw [hh]
  refine wpAny_pure (a := some dx) ?_
  show wpAny _ _ (Builtin.ObjectAttr.storeInDict dx (.str name (s.toks)) name v) _ _ _
  exact store_tail (s := { s with toks := s.toks + 1 }) (pre := [(x, exo C t (some dx))]) (post := news) F N hl (fun p hp => by rw [List.mem_singleton.mp hp]; exact hne) off e hz fun h' F' N' => h _ F' N'
end
theorem layE11 : True := by
  k_with "my getMethod type:Exception" => ((k_here; refine' method_type ?FZ9 ?XZ9 meta_Exception (by decide +kernel) ?eZ9 ?hZ9 ?_; (case FZ9 => k_asm); (case XZ9 => k_asm); (case eZ9 => k_dflt k_is); (case hZ9 => k_handed)))
  exact True.intro
theorem init_at (w : World) (news : List (Addr × Obj)) (x t : Addr) (what : Str) (tw : Tok) (off : ∀ p ∈ news, p.1 ≠ x) : CG w 2 78 [.ref x, .str what tw] ((x, exo 101 t none) :: news) (RX x 101 (.str what tw) news) := by
  w_top off
  intro mean mg mb dp un gd cn cs a ccd cl outer A₀ base h₀ L m s Q E B F X N T hk hd hu hret
  refine wpAny_call ?_
  k_dflt (refine' code_def ?k1 ?k2 ?k3 ?k4 ?k5 ?kA ?kF ?kK ?k6 ?k7 ?k8 ?k9 ?kB ?_ ?c2 ?c3 ?c4 ?c5; (case kA => exact rfl); (case kF => exact rfl); (case kK => assumption); (case k1 => k_asm); (case k2 => k_asm); (case k3 => k_asm); (case k4 => k_asm); (case k5 => k_asm); (case k6 => k_is); (case k7 => k_is); (case k8 => ktr_room); (case k9 => exact binds_K (by k_in) rfl (by k_is) rfl rfl rfl); (case c5 => decide); (case kB => exact locs rfl); (case c2 => exact rfl); (case c3 => exact rfl); (case c4 => exact rfl); k_whole; intro g' L' h' FG' F' N' B' X' T'; (try dsimp only); (try k_lift B'); (try k_fold); (try (refine let_AE ?_; intro A9q e9q)); (try ((with_reducible rename Fr _ _ _ _ => F9q); refine let_m F9q ?_; clear F9q; intro m9q F')))
  (try k_fold)
  k_steps
  k_here
  refine' bxi_call ?kF ?kX ?kN ?ks ?kc off ?_
  (case kF => k_asm)
  (case kX => k_asm)
  (case kN => k_asm)
  (case ks => k_is)
  (case kc => k_is)
  k_whole
  intro t' h' F' N' l'
  (try k_fold)
  k_steps
  k_here
  refine' xset1 ?kF ?kX ?kN ?ko ?k1 ?k2 ?k3 ?k4 ?k5 ?k6 ?_
  (case kF => k_asm)
  (case kX => k_asm)
  (case kN => k_asm)
  (case ko => (intro p hp; rcases List.mem_cons.mp hp with rfl | hp; exact Nat.ne_of_gt (l' _ List.mem_cons_self); exact off p hp))
  (case k1 => k_is)
  (case k2 => k_is)
  (case k3 => k_is)
  (case k4 => exact fun self => refuse_exc self _ _)
  (case k5 => k_is)
  (case k6 => rfl)
  k_whole
  intro d' h' F' N' l2'
  (try k_fold)
  k_steps
  k_here
  refine' xset2 ?kF ?kX ?kN ?kne ?ko ?k1 ?k2 ?k3 ?k4 ?k5 ?k6 ?kg ?kp ?kz ?_
  (case kF => k_asm)
  (case kX => k_asm)
  (case kN => k_asm)
  (case kne => exact Nat.ne_of_lt (l2' _ List.mem_cons_self))
  (case ko => exact fun p hp => Nat.ne_of_lt (l2' _ (.tail _ hp)))
  (case k1 => k_is)
  (case k2 => k_is)
  (case k3 => k_is)
  (case k4 => exact fun self => refuse_exc self _ _)
  (case k5 => k_is)
  (case k6 => rfl)
  (case kg => exact rfl)
  (case kp => exact rfl)
  (case kz => exact Nat.le_of_ble_eq_true rfl)
  k_whole
  intro h' F' N'
  (try k_fold)
  k_steps
  refine' hret _ _ _ _ _ ?cF ?cN fun p hp => l' p (.tail _ hp)
  (case cF => k_asm)
  (case cN => first | k_asm | (refine' cb_drop ?cbN ?cbS; (case cbN => assumption); (case cbS => kcj_all)))
section
variable {prog : Program} {w : World} {A : Around} {E : Value → Shared → Prop} {h : Heap} {g : Array GenState} {d : Drawn} {t : Nat} {os : OsState} {K : Frag}
variable {nm q : Str} {C N : Addr} {bs bm : List Value} {hdct : Bool} {sn : List Str} {sub : List Value} {ab : Bool} {col : Option Bool} {dd : Option Addr} {k0 k1 k2 k3 k5 : Option Value} {v : Value}
/-- an exception class whose __init__ stands in an own class above it: how the call goes -/
theorem xnew {R : Result → Shared → Prop} (hC : h.get? C = some (excClassObj nm q C N bs bm hdct sn sub ab col dd k0 k1 k2 k3 k5 "Exception.__new__"))
    (hB : bm.contains (.type "Exception") = true) (hA : bm.contains (.type "AttributeError") = false) (hN : bm.contains (.type "NameError") = false)
    (hq : R (.ok (.ret (.ref (h.objs.size + 1)))) ⟨(h.push { cls := .type "tuple", data := .seq #[v] }).push (exo C h.objs.size none), g, d, t, os⟩) :
    codeAny (model prog w) A (.builtin "Exception.__new__" ⟨[.ref C, v], []⟩) R ⟨h, g, d, t, os⟩ := by
  have G := PySem.F.excBase_Exception
  have hends := G.ends
  have hcB : (Value.ref C :: bm).contains (.type "Exception") = true := by rw [List.contains_cons, hB, Bool.or_true]
  have hcA : (Value.ref C :: bm).contains (.type "AttributeError") = false := by rw [List.contains_cons, hA]; rfl
  have hcN : (Value.ref C :: bm).contains (.type "NameError") = false := by rw [List.contains_cons, hN]; rfl
  refine codeAny_builtinAt G.entry ?_
  unfold Builtin.«BaseException.__new__»
  refine PySem.wpAt_bind ?_
  show PySem.wpAt _ _ _ (stack >>= _) _ _ _
  refine PySem.wpAt_bind (PySem.wpAt_stack fun p below => PySem.wpAt_of_wpAny ?_)
  wp_walk
  refine PySem.wpAt_of_wpAny ?_
  rw [G.owner]
  repeat (first | (with_reducible refine wpAny_madeHere_exc G.canon hC ?_) | (with_reducible refine wpAny_loadPart_at hC ?_) | ((with_reducible refine wpAny_isSubtype_exc hC ?_); first | rw [hcB] | rw [hcA] | rw [hcN]) | wp_step)
  show R _ _
  rw [Heap.size_push]
  exact hq
theorem xcheck {M : Model} {Q : Unit → Shared → Prop} (hC : h.get? C = some (excClassObj nm q C N bs bm hdct sn sub ab col dd k0 k1 k2 k3 k5 "Exception.__new__"))
    (hB : bm.contains (.type "Exception") = true) (hq : Q () ⟨h, g, d, t, os⟩) : wpAny M A (checkBuiltinCall "Exception.__new__" ⟨[.ref C, v], []⟩) Q E ⟨h, g, d, t, os⟩ := by
  have G := PySem.F.excBase_Exception
  have hcont : (Value.ref C :: bm).contains (.type "Exception") = true := by rw [List.contains_cons, hB, Bool.or_true]
  have hstar := G.noStar
  simp only [checkBuiltinCall, G.newKind, G.newSplit, G.newRow]
  repeat (first | (with_reducible refine wpAny_loadPart_at hC ?_) | ((with_reducible refine wpAny_isSubtype_exc hC ?_); rw [hcont]) | (with_reducible refine wpAny_staticBase_exc hC ?_) | (with_reducible refine wpAny_madeBy_exc hC ?_) | simp only [bne_self_eq_false, Bool.false_eq_true, if_false] | wp_step)
  exact hq
theorem xcall_inner {Q : PySem.Fin → Shared → Prop} {fI : Addr} (X : K.In h) (hC : h.get? C = some (excClassObj nm q C N bs bm hdct sn sub ab col dd k0 k1 k2 k3 k5 "Exception.__new__"))
    (hB : bm.contains (.type "Exception") = true) (hA : bm.contains (.type "AttributeError") = false) (hN : bm.contains (.type "NameError") = false)
    (hi : findIn K (.ref C) "__init__" = some (some (.ref fI))) (hf : typeIn K (.ref fI) = some (.type "function"))
    (hq : ∀ h' e, Heap.MadeExcOf h h' e (.ref C) [v] → wpAny (model prog w) A (call (.ref fI) [.ref e, v]) (fun r s' => r = .none ∧ Q (.done (.ret (.ref e))) s') E ⟨h', g, d, t, os⟩) :
    wpAny (model prog w) A (Builtin.«type.__call__» ⟨[.ref C, v], []⟩) Q E ⟨h, g, d, t, os⟩ := by
  repeat (first | with_reducible refine wpAny_loadPart_at hC ?_ | with_reducible refine wpAny_madeBy_exc hC ?_ | wp_step)
  refine codeAny_call_builtin_code (Code.quiet_builtin _ PySem.F.excBase_Exception.quiet) (xcheck hC hB ?_)
  refine xnew hC hB hA hN ?_
  show wpAny _ _ _ _ _ _
  have kp : ∀ b o, h.get? b = some o → ((h.push { cls := .type "tuple", data := .seq #[v] }).push (exo C h.objs.size none)).get? b = some o := fun b o e => Heap.get?_push_of_some _ (Heap.get?_push_of_some _ e)
  have hC₁ := kp _ _ hC
  have hget : ((h.push { cls := .type "tuple", data := .seq #[v] }).push (exo C h.objs.size none)).get? (h.objs.size + 1) = some (exo C h.objs.size none) := by heap_get
  have hcC : (Value.ref C :: bm).contains (.ref C) = true := by simp
  have X₁ : K.In ((h.push { cls := .type "tuple", data := .seq #[v] }).push (exo C h.objs.size none)) := X.keeps kp
  unfold isInstance
  repeat (first | with_reducible refine wpAny_loadPart_at hget ?_ | (with_reducible refine wpAny_isSubtype_exc hC₁ ?_; rw [hcC]) | wp_step)
  show wpAny _ _ (typeLookup (.ref C) _) _ _ _
  refine (looks_findIn X₁ hi).here ?_
  refine wpAny_holding (wpAny_bind ((bind_fn X₁ _ hf).here ?_))
  refine wpAny_bind (wpAny_mono (hq _ (h.objs.size + 1) ⟨kp, Heap.get?_none_of_le (Nat.le_succ _), h.objs.size, hget, Heap.get?_none_of_le (Nat.le_refl _), ?_⟩) (fun r s' hr => ?_) fun _ _ x => x)
  · exact Heap.get?_push_of_some _ (Heap.get?_push_at rfl rfl)
  · obtain ⟨rfl, hQ⟩ := hr
    wp_walk
    exact hQ
theorem xcall {Q : Value → Shared → Prop} {fI : Addr} (X : K.In h) (hC : h.get? C = some (excClassObj nm q C N bs bm hdct sn sub ab col dd k0 k1 k2 k3 k5 "Exception.__new__"))
    (hB : bm.contains (.type "Exception") = true) (hA : bm.contains (.type "AttributeError") = false) (hN : bm.contains (.type "NameError") = false)
    (hi : findIn K (.ref C) "__init__" = some (some (.ref fI))) (hf : typeIn K (.ref fI) = some (.type "function"))
    (hq : ∀ h' e, Heap.MadeExcOf h h' e (.ref C) [v] → wpAny (model prog w) (A.under (.builtin "type.__call__" ⟨[.ref C, v], []⟩)) (call (.ref fI) [.ref e, v]) (fun r s' => r = .none ∧ Q (.ref e) s') E ⟨h', g, d, t, os⟩) :
    wpAny (model prog w) A (call (.ref C) [v]) Q E ⟨h, g, d, t, os⟩ := by
  have f1 := tc_lookup
  have f2 := tc_bind (.ref C)
  have hT : (⟨h, g, d, t, os⟩ : Shared).TypeIs (.ref C) "type" := ⟨_, hC, rfl⟩
  refine wpAny_call (codeAny_of_tree ?_)
  show wpAny _ _ (callAny (.ref C) _) _ _ _
  repeat (any_goals (first | assumption | with_reducible refine wpAny_loadPart_at hC ?_ | wp_step))
  exact ⟨rfl, codeAny_call_builtin_at (Code.quiet_builtin _ (by decide +kernel)) entry_typeCall (wpAny_check_type_call_sub hC (xcall_inner X hC hB hA hN hi hf hq))⟩
end

section
variable {M : Model} {A : Around} {E : Value → Shared → Prop} {s' : Shared} {base g g₂ h : Heap} {outer : List Env} {L a e t C : Addr} {m : Str → Option Value} {name : Str} {scope : Scope} {cd v : Value} {Q : Unit → Shared → Prop} {news : List (Addr × Obj)}
theorem leave_raiseX (K : Below A base outer g) (F : Fr g L s'.heap m) {dd : Option Addr} (N : News g L s'.heap ((e, exo C t dd) :: (t, ({ cls := .type "tuple", data := .seq #[v] } : Obj)) :: news)) (ne1 : ∀ p ∈ news, p.1 ≠ e) (nt1 : ∀ p ∈ news, p.1 ≠ t)
    (hQ : ∀ h' t, RaisedS base g outer e (.ref C) t [v] news h' → RaisedK base outer e (.ref C) t [v] news h' → g.UpToSlots h' → Q () { s' with heap := h' }) (hk : scope.kind = .function := by rfl) :
    wpAny M (A.deeper (envOf name scope L a cd)) (leaving (envOf name scope L a cd) (.ref e)) Q E s' := by
  have K' := K.push (name := name) (a := a) (cd := cd) F hk
  obtain ⟨he, -, eg⟩ := N _ List.mem_cons_self
  obtain ⟨ht, -, tg⟩ := N _ (.tail _ (.head _))
  generalize hfs : e :: t :: (envOf name scope L a cd :: outer).filterMap (·.frame) = fs
  have hin : ∀ env ∈ (envOf name scope L a cd :: outer), ∀ b, env.frame = some b → b ∈ fs := fun env he b hb => hfs ▸ .tail _ (.tail _ (List.mem_filterMap.mpr ⟨env, he, hb⟩))
  have off : ∀ b o, g.get? b = some o → b ∉ outer.filterMap (·.frame) → b ∉ fs := fun b o q nm hm => by
    subst hfs
    rcases List.mem_cons.mp hm with z | hm
    · rw [z, eg] at q; cases q
    · rcases List.mem_cons.mp hm with z | hm
      · rw [z, tg] at q; cases q
      · rcases kts_mem hm with z | z
        · rw [z, kts_self F] at q; cases q
        · exact nm z
  have st : base.StaysIn (hideAll s'.heap fs) := fun b o q => hideAll_get _ (K'.stays b o q) (off b o (K.stays b o q) fun hm => by
    rw [(K.frames.mem hm).1] at q; cases q)
  have sg : ∀ b o, g.get? b = some o → b ∉ outer.filterMap (·.frame) → (hideAll s'.heap fs).get? b = some o := fun b o q nm => hideAll_get _ (F.keep b o q) (off b o q nm)
  have hl : ∀ q ∈ news, (hideAll s'.heap fs).get? q.1 = some q.2 ∧ g.get? q.1 = none ∧ base.get? q.1 = none := fun q hq => by
    have hN := N q (.tail _ (.tail _ hq))
    refine ⟨hideAll_get _ hN.1 fun hm => ?_, hN.2.2, fresh_of_stays K.stays hN.2.2⟩
    subst hfs
    rcases List.mem_cons.mp hm with z | hm
    · exact ne1 q hq z
    · rcases List.mem_cons.mp hm with z | hm
      · exact nt1 q hq z
      · rcases kts_mem hm with z | z
        · exact hN.2.1 z
        · obtain ⟨_, o, ho, _⟩ := K.frames.mem z
          rw [hN.2.2] at ho; cases ho
  have ne : (hideAll s'.heap fs).get? e = none := hideAll_none _ (hfs ▸ List.mem_cons_self)
  have nt : (hideAll s'.heap fs).get? t = none := hideAll_none _ (hfs ▸ .tail _ (.head _))
  refine wpAny_leaving_firstW (a0 := .ref t) K'.stack (funFrames_hide K'.frames hin) rfl he (fun b o hb => of_hideAll _ hb) ne rfl rfl rfl fun h' hL => ?_
  obtain ⟨k1, ⟨_, _, k2⟩, k3, k4⟩ := hL
  have R : RaisedS base g outer e (.ref C) t [v] news h' := ⟨⟨_, st, sg, hl, ⟨k1, ne, k2, k3⟩, nt⟩, Heap.TupAt.of_slots ⟨_, _, ht, rfl, rfl⟩ k4⟩
  exact hQ h' t R R.toK ((Heap.UpToSlots.of_keeps F.keep).trans k4)
theorem xraise_stmt {nm q : Str} {N : Addr} {bs bm : List Value} {hdct : Bool} {sn : List Str} {sub : List Value} {ab : Bool} {col : Option Bool} {dd : Option Addr} {k0 k1 k2 k3 k5 : Option Value} {newId : String} {env : Env}
    {s : Shared} {x : Sem Value} {Q : Flow → Shared → Prop} (hbase : bm.contains (.type "BaseException") = true) (hh : A.handled = none)
    (h : wpAny M A x (fun v s₁ => ∃ e t de, v = .ref e ∧ s₁.heap.get? C = some (excClassObj nm q C N bs bm hdct sn sub ab col dd k0 k1 k2 k3 k5 newId) ∧ s₁.heap.get? e = some (exo C t de) ∧ E (.ref e) s₁) E s) :
    wpAny M A (raiseStmt env (some x) none) Q E s := by
  have hcB : (Value.ref C :: bm).contains (.type "BaseException") = true := by rw [List.contains_cons, hbase, Bool.or_true]
  unfold raiseStmt
  refine wpAny_bind (wpAny_mono h (fun v s₁ h₁ => ?_) fun _ _ x => x)
  obtain ⟨e, t, de, rfl, hC, he, hE⟩ := h₁
  obtain ⟨hp, g, d, tk, os⟩ := s₁
  repeat (first | with_reducible refine wpAny_loadPart_at he ?_ | with_reducible refine wpAny_loadPart_at hC ?_ | (with_reducible refine wpAny_isSubtype_exc hC ?_; rw [hcB]) | wp_step)
  exact wpAny_raiseNew_none hh hE
end

theorem under_make (dp un : Nat) (gd : Option (List Code)) (cn : Str) (cs : Scope) (L a : Addr) (ccd : Value) (cl : List (Str × Addr)) (outer : List Env) (v : Value) :
    (ktrTop dp un gd cn cs L a ccd cl outer).under (.builtin "type.__call__" ⟨[.ref 101, v], []⟩) = ktrTop (dp + 1) (un + 1) gd cn cs L a ccd cl outer := rfl
theorem cls101 {w : World} {h : Heap} (X : (hd.heap_39 w.params).In h) : ∃ (nm q : Str) (N : Addr) (bs : List Value) (hdct : Bool) (sn : List Str) (sub : List Value) (ab : Bool) (col : Option Bool) (dd : Option Addr) (k0 k1 k2 k3 k5 : Option Value), h.get? 101 = some (excClassObj nm q 101 N bs [.ref 88, .type "Exception", .type "BaseException", .type "object"] hdct sn sub ab col dd k0 k1 k2 k3 k5 "Exception.__new__") :=
  ⟨_, _, _, _, _, _, _, _, _, _, _, _, _, _, _, X _ _ (by k_is)⟩
abbrev RMX (v : Value) (news : List (Addr × Obj)) : Cont := fun h₀ L m s Q _ => ∀ (e t : Addr) (dd : Option Addr) (h' : Heap) (tk' : Nat), Fr h₀ L h' m → News h₀ L h' ((e, exo 101 t dd) :: (t, ({ cls := .type "tuple", data := .seq #[v] } : Obj)) :: news) → (∀ p ∈ news, p.1 ≠ e) → (∀ p ∈ news, p.1 ≠ t) → Q (.ref e) { s with heap := h', toks := tk' }
theorem mime_at (w : World) (news : List (Addr × Obj)) (what : Str) (tw : Tok) : CG w 3 101 [.str what tw] news (RMX (.str what tw) news) := by
  w_top off
  intro mean mg mb dp un gd cn cs a ccd cl outer A₀ base h₀ L m s Q E B F X N T hk hd hu hret
  obtain ⟨nm, q, N1, bs, hdct, sn, sub, ab, col, dd, k0, k1, k2, k3, k5, hC⟩ := cls101 (X.keeps F.keep)
  obtain ⟨hp, g, d, tk, os⟩ := s
  refine xcall (X.keeps F.keep) hC rfl rfl rfl (by k_is) (by k_is) fun h' e hm => ?_
  rw [under_make]
  obtain ⟨t, he, htn, ht⟩ := hm.there
  have nF : ∀ b, hp.get? b = none → h₀.get? b = none := fun b hb => by
    cases z : h₀.get? b with
    | none => rfl
    | some o => rw [F.keep _ _ z] at hb; cases hb
  have F' := F.keeps hm.keeps
  have N' : News h₀ L h' ((e, exo 101 t none) :: news) := by
    intro p hp
    rcases List.mem_cons.mp hp with rfl | hp
    · refine ⟨he, ?_, nF _ hm.new⟩
      intro z
      obtain ⟨o, es, ep, ho, _⟩ := F.ns
      have z2 : L = e := z.symm
      have := hm.new; rw [← z2, ho] at this; cases this
    · exact N.grown hm.keeps p hp
  have off : ∀ p ∈ news, p.1 ≠ e := fun p hp z => by
    have := (N p hp).1; rw [z, hm.new] at this; cases this
  refine init_at w news e t what tw off mean mg mb (dp + 1) (un + 1) gd cn cs a ccd cl outer A₀ base h₀ L m ⟨h', g, d, tk, os⟩ _ E B F' X N' T hk (by omega) (by omega) ?_
  intro t' d' oD h2 tk2 F2 N2 l2
  refine ⟨rfl, hret e t' (some d') h2 tk2 F2 (fun p hp => N2 p ?_) off fun p hp => Nat.ne_of_lt (l2 p hp)⟩
  rcases List.mem_cons.mp hp with rfl | hp
  · exact .head _
  · exact .tail _ (.tail _ hp)
def MimeRaised (h₀ : Heap) (E : Value → Shared → Prop) (v : Value) (s₁ : Shared) : Prop := ∃ e t de, v = .ref e ∧ (∀ b o, h₀.get? b = some o → s₁.heap.get? b = some o) ∧ s₁.heap.get? e = some (exo 101 t de) ∧ E (.ref e) s₁
theorem MimeRaised.intro {h₀ : Heap} {L e t : Addr} {de : Option Addr} {m : Str → Option Value} {news : List (Addr × Obj)} {E : Value → Shared → Prop} {s₁ : Shared} (F : Fr h₀ L s₁.heap m) (N : News h₀ L s₁.heap ((e, exo 101 t de) :: news)) (h : E (.ref e) s₁) : MimeRaised h₀ E (.ref e) s₁ :=
  ⟨e, t, de, rfl, F.keep, (N _ List.mem_cons_self).1, h⟩
theorem raise_mime {prog : Program} {w : World} {A : Around} {E : Value → Shared → Prop} {s : Shared} {env : Env} {x : Str} {np cpos pos : Pos} {args : List Expr} {h₀ : Heap} {Q : Flow → Shared → Prop} (X : (hd.heap_39 w.params).In h₀) (hh : A.handled = none)
    (h : wpAny (model prog w) A (eval (.Call (.Name x np) args [] cpos) env) (MimeRaised h₀ E) E s) :
    wpAny (model prog w) A (exec (.Raise (some (.Call (.Name x np) args [] cpos)) none pos) env) Q E s := by
  obtain ⟨nm, q, N1, bs, hdct, sn, sub, ab, col, dd, k0, k1, k2, k3, k5, hC⟩ := cls101 X
  rw [arm_exec_Raise]
  refine wpAny_bind (wpAny_standAt (xraise_stmt (C := 101) (nm := nm) (q := q) (N := N1) (bs := bs) (bm := [.ref 88, .type "Exception", .type "BaseException", .type "object"]) (hdct := hdct) (sn := sn) (sub := sub) (ab := ab) (col := col) (dd := dd) (k0 := k0) (k1 := k1) (k2 := k2) (k3 := k3) (k5 := k5) (newId := "Exception.__new__") rfl hh ?_))
  show wpAny _ _ ((eval (.Call (.Name x np) args [] cpos) env) >>= fun v => _) _ _ _
  refine wpAny_bind (wpAny_mono h (fun v s₁ h₁ => ?_) fun _ _ z => z)
  obtain ⟨e, t, de, rfl, hk, he, hE⟩ := h₁
  exact wpAny_bind (wpAny_standAt (wpAny_pure ⟨e, t, de, rfl, hk _ _ hC, he, hE⟩))
theorem layE31 : True := by
  k_with "my call ref" => ((k_here; (with_reducible show wpAny _ _ (PySem.call (Value.ref 101) _) _ _ _); k_dflt (refine' called (mime_at _ _ _ _) ?kBZ9 ?kFZ9 ?kXZ9 ?kNZ9 ?kTZ9 ?kKZ9 ?kDZ9 ?kUZ9 ?_; (case kBZ9 | kFZ9 | kXZ9 | kNZ9 | kTZ9 => k_asm); (case kKZ9 => first | exact rfl | assumption); (case kDZ9 => ktr_room); (case kUZ9 => ktr_units)); intro e'q t'q dd'q h'q tk'q F'q N'q ne1'q nt1'q))
  k_with "my exec Raise some none" => ((k_here; k_dflt (refine' raise_mime ?kXZ9 rfl ?_; (case kXZ9 => k_asm))))
  exact True.intro

theorem layR121 : True := by
  k_with "my eval ListComp" => ((k_here; (with_reducible rename MyComp => hMC'q); (with_reducible show wpAny _ _ (eval (Expr.ListComp _ [⟨_, _, [_], _⟩] _ _) _) _ _ _); k_dflt (refine' comp_T (by k_asm) (by with_unfolding_all rfl) (by decide) (by rfl) (by decide) (by rfl) ?_)))
  k_with "my exec Assign cons ListComp" => ((k_here; (with_reducible rename MyComp => hMC'q); (with_reducible show wpAny _ _ (exec (Stmt.Assign _ (Expr.ListComp _ [⟨_, _, [_], _⟩] _ _) _) _) _ _ _); k_dflt (refine' comp_AT (by k_asm) (by rfl) (by with_unfolding_all rfl) (by with_unfolding_all rfl) (by decide) (by rfl) (by decide) (by rfl) (by rfl) (by rfl) ?_)))
  exact True.intro
section
variable {prog : Program} {w : World} {A : Around} {E : Value → Shared → Prop} {s : Shared} {h₀ : Heap} {L : Addr} {m : Str → Option Value} {env : Env} {elt ct iter : Expr} {x : Str} {scope : Scope} {cl : List (Str × Addr)} {n : Nat} {nw : List (Addr × Obj)} {Fin : Shared → List Value → List (Addr × Obj) → Prop}
theorem cpT_tupC {ax : Addr} {its : Array Value} (J : Nat → List Value → Prop) (F : Fr h₀ L s.heap m) (N : News h₀ L s.heap nw) (hS : TupSrc h₀ ax its nw)
    (hh : A.handled = none) (hsz : its.size ≤ 16777216) (hj : J 0 [])
    (turn : Hold (∀ (i : Nat) (v : Value) ys I oI C oC D m₂ h tk (E' : Value → Shared → Prop), its[i]? = some v → J i ys → LCg.NsObj oC m₂ → m₂ x = some (v) → Fr h₀ L h m → News h₀ L h ((I, oI) :: (C, oC) :: (D, LCg.lst ys) :: nw) → LCg.Off3 I C D nw → ((@Ne Nat I C) ∧ (@Ne Nat I D) ∧ (@Ne Nat C D)) →
      wpAny (model prog w) A (isTrue ct (compEnvC scope cl C env) (eval ct (compEnvC scope cl C env))) (fun ok s' => if ok = true then
        wpAny (model prog w) A (eval elt (compEnvC scope cl C env)) (LCg.CompEnd h₀ L m { s with heap := h, toks := tk } I oI C oC D (LCg.lst ys) (TupSrc h₀ ax its) (fun y news' => ∃ _ : Unit, news' = nw ∧ J (i + 1) (ys ++ [y]))) E' s'
        else LCg.CompEnd h₀ L m { s with heap := h, toks := tk } I oI C oC D (LCg.lst ys) (TupSrc h₀ ax its) (fun _ news' => ∃ _ : Unit, news' = nw ∧ J (i + 1) ys) Value.none s') E' { s with heap := h, toks := tk }))
    (fin : Hold (∀ g ys, J its.size ys → Fin { s with heap := g } ys nw)) :
    wpAny (model prog w) A (pyIter (.ref ax)) (CpT prog w A h₀ L m env ct elt x scope cl Fin) E s :=
  cpT_tup (σ := Unit) (fun _ => nw) (fun i _ ys => J i ys) () hh hsz hS F N hj (fun i v _ => turn i v) (fun g _ ys => fin g ys)
end

section
variable {prog : Program} {w : World} {A : Around} {E : Value → Shared → Prop} {s : Shared} {K : Frag} {h₀ : Heap} {L a : Addr} {m : Str → Option Value} {items : Array Value} {n : Nat} {sl : Array (Option Value)} {Q : Value → Shared → Prop}
theorem tup_K {h : Heap} (F : Fr h₀ L h m) (X : K.In h₀) (e : K.lookup a = some ⟨.type "tuple", none, .seq items n, sl⟩) : IsTup h a items := ⟨_, F.keep _ _ (X _ _ e), rfl, n, rfl⟩
theorem in_K_strs {ys : List Str} {x : Str} {u : Tok} {b : Bool} (F : Fr h₀ L s.heap m) (X : K.In h₀) (e : K.lookup a = some ⟨.type "tuple", none, .seq items n, sl⟩) (hi : StrsAre items.toList ys) (hb : ys.any (· == x) = b) (h : Q (.bool b) s) :
    wpAny (model prog w) A (compareOp .In (.str x u) (.ref a)) Q E s := in_tuple_strs (tup_K F X e) hi (hb ▸ h)
theorem notin_K_strs {ys : List Str} {x : Str} {u : Tok} {b : Bool} (F : Fr h₀ L s.heap m) (X : K.In h₀) (e : K.lookup a = some ⟨.type "tuple", none, .seq items n, sl⟩) (hi : StrsAre items.toList ys) (hb : ys.any (· == x) = b) (h : Q (.bool (!b)) s) :
    wpAny (model prog w) A (compareOp .NotIn (.str x u) (.ref a)) Q E s := notin_tuple_strs (tup_K F X e) hi (hb ▸ h)
theorem in_K_ints {ys : List Int} {x : Int} {u : Tok} (F : Fr h₀ L s.heap m) (X : K.In h₀) (e : K.lookup a = some ⟨.type "tuple", none, .seq items n, sl⟩) (hi : IntsAre items.toList ys) (h : Q (.bool (decide (x ∈ ys))) s) :
    wpAny (model prog w) A (compareOp .In (.int x u) (.ref a)) Q E s := in_tuple_ints (tup_K F X e) hi (by rw [List.any_beq']; simpa [List.contains_iff] using h)
theorem notin_K_ints {ys : List Int} {x : Int} {u : Tok} (F : Fr h₀ L s.heap m) (X : K.In h₀) (e : K.lookup a = some ⟨.type "tuple", none, .seq items n, sl⟩) (hi : IntsAre items.toList ys) (h : Q (.bool (!decide (x ∈ ys))) s) :
    wpAny (model prog w) A (compareOp .NotIn (.int x u) (.ref a)) Q E s := notin_tuple_ints (tup_K F X e) hi (by rw [List.any_beq']; simpa [List.contains_iff] using h)
end
theorem layR131 : True := by
  k_with "my compareOp In str ref" => ((k_here; (with_reducible show wpAny _ _ (compareOp CmpOp.In (Value.str _ _) (Value.ref _)) _ _ _); k_dflt (refine' in_K_strs ?FZ9 ?XZ9 ?eZ9 ?k2Z9 ?k3Z9 ?_; (case FZ9 => k_asm); (case XZ9 => k_asm); (case eZ9 => k_is); (case k2Z9 => (repeat constructor)); (case k3Z9 => first | with_reducible assumption | exact rfl))))
  k_with "my compareOp NotIn str ref" => ((k_here; (with_reducible show wpAny _ _ (compareOp CmpOp.NotIn (Value.str _ _) (Value.ref _)) _ _ _); k_dflt (refine' notin_K_strs ?FZ9 ?XZ9 ?eZ9 ?k2Z9 ?k3Z9 ?_; (case FZ9 => k_asm); (case XZ9 => k_asm); (case eZ9 => k_is); (case k2Z9 => (repeat constructor)); (case k3Z9 => first | with_reducible assumption | exact rfl))))
  exact True.intro

section
variable {prog : Program} {w : World} {A : Around} {E : Value → Shared → Prop} {s : Shared} {value slice : PySem.Expr} {x : PySem.Str} {t u : Tok} {i : Int} {Q : Value → Shared → Prop}
theorem titem_eq {x : Str} {i : Int} (h0 : 0 ≤ i) (h1 : i < x.length) : Txt.item x i = ⟨#[x.cps.getD i.toNat 0]⟩ := by
  obtain ⟨n, rfl⟩ := Int.eq_ofNat_of_zero_le h0
  have hn : n < x.cps.size := by show n < x.length; omega
  unfold Txt.item Txt.charAt seqIndex?
  dsimp only
  rw [if_neg (show ¬ (n : Int) < 0 by omega), if_pos (by simp; omega)]
  simp [Array.getD_eq_getD_getElem?]
theorem s_len (h : x.length ≤ 16777216) (q : Q (.int x.length (s.toks + 1)) { s with toks := s.toks + 1 + 1 }) : wpAny (model prog w) A (call (.builtin "len") [.str x t]) Q E s := P.len_str (by omega) q
theorem s_item (h0 : 0 ≤ i) (h1 : i < x.length) (hn : x.length ≤ 16777216) (h : Q (.str ⟨#[x.cps.getD i.toNat 0]⟩ s.toks) { s with toks := s.toks + 1 })
    (hs : subscripted slice false (.str x t) (.int i u) = operate [.str x t, .int i u] (getItem (.str x t) (.int i u)) := by with_unfolding_all rfl)
    (ht : ∀ r, letTemporaryGo value (.str x t) r = pure () := by intro _; with_unfolding_all rfl) :
    wpAny (model prog w) A (subscriptTail value slice (.str x t) (.int i u)) Q E s :=
  KXi.item rfl (by omega) h1 hn (fun _ => by rw [titem_eq h0 h1]; exact h) hs ht
theorem s_chr (h0 : 0 ≤ i) (h1 : i ≤ 1114111) (h : Q (.str ⟨#[i.toNat]⟩ s.toks) { s with toks := s.toks + 1 }) : wpAny (model prog w) A (call (.builtin "chr") [.int i t]) Q E s := chr_of_range h0 h1 h
end
theorem layR141 : True := by
  k_with "my call builtin:len" => ((k_here; (with_reducible show wpAny _ _ (call (Value.builtin "len") [Value.str _ _]) _ _ _); (fail_if_success (with_reducible show wpAny _ _ (call (Value.builtin "len") [Value.str (PySem.Str.ofString _) _]) _ _ _)); (refine s_len (by omega) ?_)))
  k_with "my subscriptTail" => ((k_here; (with_reducible show wpAny _ _ (subscriptTail _ _ (Value.str _ _) (Value.int _ _)) _ _ _); (refine s_item (by omega) (by omega) (by omega) ?_)))
  k_with "my call builtin:ord" => ((k_here; (with_reducible show wpAny _ _ (call (Value.builtin "ord") [Value.str ⟨#[_]⟩ _]) _ _ _); (refine P.ord_of_char ?_)))
  exact True.intro

section
variable {prog : Program} {w : World} {A : Around} {E : Value → Shared → Prop} {s : Shared} {h₀ : Heap} {L : Addr} {m : Str → Option Value} {env : Env} {elt ct iter : Expr} {x : Str} {scope : Scope} {cl : List (Str × Addr)} {n : Nat} {nw : List (Addr × Obj)} {Fin : Shared → List Value → List (Addr × Obj) → Prop}
theorem cpU_listC {ax : Addr} {its : Array Value} (J : Nat → List Value → Prop) (F : Fr h₀ L s.heap m) (N : News h₀ L s.heap nw) (hS : LCg.SrcAt h₀ ax its nw)
    (hh : A.handled = none) (hsz : its.size ≤ 16777216) (hj : J 0 [])
    (turn : Hold (∀ (i : Nat) (v : Value) ys I oI C oC D m₂ h tk (E' : Value → Shared → Prop), its[i]? = some v → J i ys → LCg.NsObj oC m₂ → m₂ x = some (v) → Fr h₀ L h m → News h₀ L h ((I, oI) :: (C, oC) :: (D, LCg.lst ys) :: nw) → LCg.Off3 I C D nw → ((@Ne Nat I C) ∧ (@Ne Nat I D) ∧ (@Ne Nat C D)) →
      wpAny (model prog w) A (eval elt (compEnvC scope cl C env)) (LCg.CompEnd h₀ L m { s with heap := h, toks := tk } I oI C oC D (LCg.lst ys) (LCg.SrcAt h₀ ax its) (fun y news' => ∃ _ : Unit, news' = nw ∧ J (i + 1) (ys ++ [y]))) E' { s with heap := h, toks := tk }))
    (fin : Hold (∀ g ys, J its.size ys → Fin { s with heap := g } ys nw)) :
    wpAny (model prog w) A (pyIter (.ref ax)) (CpU prog w A h₀ L m env elt x scope cl Fin) E s :=
  cpU_list (σ := Unit) (fun _ => nw) (fun i _ ys => J i ys) () hh hsz hS F N hj (fun i v _ => turn i v) (fun g _ ys => fin g ys)
end

/-- the ends of the chunks -/
def ce (room : Int) : List Int → Int → Int → List Int
  | [], at_, _ => [at_]
  | z :: r, at_, used => if used + z > room then at_ :: ce room r (at_ + 1) z else ce room r (at_ + 1) (used + z)
theorem ce_cons (room z at_ used : Int) (r : List Int) : ce room (z :: r) at_ used = if used + z > room then at_ :: ce room r (at_ + 1) z else ce room r (at_ + 1) (used + z) := rfl
theorem RaisedS_sub {base G : Heap} {l : List Env} {e t : Addr} {cls : Value} {vs : List Value} {news news' : List (Addr × Obj)} {h : Heap} (R : RaisedS base G l e cls t vs news h) (k : ∀ p ∈ news', p ∈ news) : RaisedS base G l e cls t vs news' h := by
  obtain ⟨⟨B, h1, h2, h3, h4⟩, h5⟩ := R
  exact ⟨⟨B, h1, h2, fun q hq => h3 q (k q hq), h4⟩, h5⟩
theorem RaisedK_sub {base : Heap} {l : List Env} {e t : Addr} {cls : Value} {vs : List Value} {news news' : List (Addr × Obj)} {h : Heap} (R : RaisedK base l e cls t vs news h) (k : ∀ p ∈ news', p ∈ news) : RaisedK base l e cls t vs news' h := by
  obtain ⟨⟨B, h1, h3, h4⟩, h5⟩ := R
  exact ⟨⟨B, h1, fun q hq => h3 q (k q hq), h4⟩, h5⟩
theorem drop_cons {ks : List Int} {i : Nat} {k : Int} (h : ks[i]? = some k) : ks.drop i = k :: ks.drop (i + 1) := by
  have hi : i < ks.length := by
    rcases Nat.lt_or_ge i ks.length with h' | h'
    · exact h'
    · rw [List.getElem?_eq_none h'] at h; cases h
  rw [List.drop_eq_getElem_cons hi]
  rw [List.getElem?_eq_getElem hi] at h
  rw [Option.some.inj h]
/-- a def's contract, where it may raise MimeFault -/
def CGE (w : World) (k : Nat) (f : Addr) (vs : List Value) (news : List (Addr × Obj)) (R : Cont) (X : Prop) : Prop :=
  ∀ (mean : ExcName → Option Value) (mg mb : Str → Option Value) (dp un : Nat) (gd : Option (List Code)) (cn : Str) (cs : Scope) (a : Addr) (ccd : Value) (cl : List (Str × Addr)) (outer : List Env) (A₀ : Around) (base h₀ : Heap) (L : Addr) (m : Str → Option Value) (s : Shared) (Q E : Value → Shared → Prop),
    Below A₀ base outer h₀ → Fr h₀ L s.heap m → (hd.heap_39 w.params).In h₀ → News h₀ L s.heap news → Top hd.view_39 Loo mean mg mb h₀ → cs.kind = .function →
    dp + 2 * k < recursionLimit → un + 32 * k < cLine → R h₀ L m s Q E →
    (X → ∀ (e t : Addr) (v : Value) (g h' : Heap) (tk' : Nat), Fr h₀ L g m → RaisedS base g (envX cn cs L a ccd cl :: outer) e (.ref 101) t [v] news h' → RaisedK base (envX cn cs L a ccd cl :: outer) e (.ref 101) t [v] news h' → g.UpToSlots h' → E (.ref e) { s with heap := h', toks := tk' }) →
      wpAny (model Prg w) (ktrTop dp un gd cn cs L a ccd cl outer) (call (.ref f) vs) Q E s
theorem chunk_ends_at (w : World) (news : List (Addr × Obj)) (l : Addr) (vs : List Value) (nn : Nat) (zs : List Int) (room : Int) (t : Tok) (hi : IntsAre vs zs) (hn : zs.length ≤ 64) (hz : ∀ z ∈ zs, 0 ≤ z ∧ z ≤ 4096) (hr : 0 ≤ room) (hr2 : room ≤ 4096) :
    CGE w 4 283 [.ref l, .int room t] ((l, listOf vs.toArray nn) :: news) (fun h₀ L m s Q E => (∀ z ∈ zs, z ≤ room) → RLs ((l, listOf vs.toArray nn) :: news) (ce room zs 0 0) h₀ L m s Q E) (∃ z ∈ zs, room < z) := by
  w_top off
  intro mean mg mb dp un gd cn cs a ccd cl outer A₀ base h₀ L m s Q E B F X N T hk hd hu hret hexc
  refine wpAny_call ?_
  k_dflt cell_enter
  (try (refine let_AE ?_; intro A9q e9q))
  have hvl := hi.length
  have hmkC11 : OwnW := True.intro
  k_with "pyIter ref" => (guard_hyp hmkC11; k_dflt (refine' lp_range (n := zs.length) (σ := List Value × List Int × Nat × Int × Tok) (fun c => listOf c.1.toArray c.2.2.1) (fun c => [("used", .int c.2.2.2.1 c.2.2.2.2)]) [] (fun i c => IntsAre c.1 c.2.1 ∧ c.2.1 ++ ce room (zs.drop i) i c.2.2.2.1 = ce room zs 0 0 ∧ c.1.length ≤ i ∧ (∀ z ∈ zs.take i, z ≤ room) ∧ 0 ≤ c.2.2.2.1 ∧ c.2.2.2.1 ≤ room) ([], [], 0, 0, _) rfl (by assumption) (small_one (by omega) (by omega) (by omega) (by omega)) (rsz_up (by omega)) (by k_asm) (by k_asm) (by kst_all) ⟨.nil, rfl, Nat.le_refl _, (fun _ h => by simp at h), Int.le_refl _, hr⟩ ?_ ?_))
  (try k_fold)
  k_steps
  · rintro i k t2 c u h1 tk2 own hi2 hk2 hoff ⟨hI, hJ, hl, hall, h0, h1'⟩ F' N'
    obtain rfl : k = (i : Int) := by omega
    clear hk2
    have hzi : zs[i]? = some (zs.getD i 0) := by simp [List.getD_eq_getElem?_getD, List.getElem?_eq_getElem hi2]
    have hb := hz _ (List.mem_of_getElem? hzi)
    rw [drop_cons hzi] at hJ
    simp only [List.cons_append] at N'
    have hgi : zs.getD (i : Int).toNat 0 = zs.getD i 0 := rfl
    (try k_fold)
    (try (refine let_m F' ?_; clear F'; intro m9q F'm))
    k_steps
    · skip
      refine' MimeRaised.intro ?kF ?kN ?_
      (case kF => k_asm)
      (case kN => k_asm)
      k_here
      refine' leave_raiseX ?k1 ?k2 ?k3 ?k4 ?k5 ?_
      (case k1 => assumption)
      (case k2 => assumption)
      (case k3 => k_asm)
      (case k4 => assumption)
      (case k5 => assumption)
      k_whole
      intro h' t' RS' RK' U'
      (try dsimp only at RS' RK' U' ⊢)
      exact hexc ⟨_, List.mem_of_getElem? hzi, by assumption⟩ _ _ _ _ _ _ (by assumption) (RaisedS_sub RS' (by kcf_all)) (RaisedK_sub RK' (by kcf_all)) U'
    · rename (¬ _ > room) => e1; rename (_ > room) => e2
      refine' lp_end (_, c.2.1 ++ [(i : Int)], _, 0 + zs.getD i 0, _) ?lpF ?lpN ?lpn ?lpo ?lpa ?lpk ?lpr ?_
      (case lpF => k_asm)
      (case lpN => k_asm)
      (case lpn => kcf_all)
      (case lpo => kcf_all)
      (case lpa => exact rfl)
      (case lpk => first | exact List.forall_mem_nil _ | kst_all)
      (case lpr => (intro z9 h91 h92 h93; first | ((repeat (with_reducible refine lz_cond ?n9 ?_; (case n9 => first | exact h91 | exact lz_sto h93 rfl | exact lz_ps h92 rfl))); refine' (lz_off ?n9).trans ?_; (case n9 => first | exact lz_all h92 rfl | exact List.forall_mem_nil _); exact if_neg (lz_ns h93)) | ((try simp only [List.mem_cons, List.not_mem_nil, or_false, forall_eq, forall_eq_or_imp] at h92); first | (simp only [h91, if_false, kstB]; done) | (simp [kstB, h91, h92]; done) | (simp_all [kstB]; done))))
      refine ⟨ints_snoc' hI _ _, ?_, by dsimp only; rw [List.length_append, List.length_singleton]; omega, ?_, by dsimp only; omega, by dsimp only; omega⟩
      · rw [ce_cons] at hJ
        rw [if_pos (by omega)] at hJ
        dsimp only
        rw [← hJ, List.append_assoc, Int.zero_add]; rfl
      · intro z hz2
        rw [List.take_add_one, hzi, Option.toList_some] at hz2
        rcases List.mem_append.mp hz2 with h | h
        · exact hall z h
        · rw [List.mem_singleton.mp h]; omega
    · rename (¬ _ + _ > room) => e1; rename (¬ List.getD _ _ _ > room) => e0
      rw [hgi] at e0 e1
      refine' lp_end (_, c.2.1, _, c.2.2.2.1 + zs.getD i 0, _) ?lpF ?lpN ?lpn ?lpo ?lpa ?lpk ?lpr ?_
      (case lpF => k_asm)
      (case lpN => k_asm)
      (case lpn => kcf_all)
      (case lpo => kcf_all)
      (case lpa => exact rfl)
      (case lpk => first | exact List.forall_mem_nil _ | kst_all)
      (case lpr => (intro z9 h91 h92 h93; first | ((repeat (with_reducible refine lz_cond ?n9 ?_; (case n9 => first | exact h91 | exact lz_sto h93 rfl | exact lz_ps h92 rfl))); refine' (lz_off ?n9).trans ?_; (case n9 => first | exact lz_all h92 rfl | exact List.forall_mem_nil _); exact if_neg (lz_ns h93)) | ((try simp only [List.mem_cons, List.not_mem_nil, or_false, forall_eq, forall_eq_or_imp] at h92); first | (simp only [h91, if_false, kstB]; done) | (simp [kstB, h91, h92]; done) | (simp_all [kstB]; done))))
      refine ⟨hI, ?_, Nat.le_succ_of_le hl, ?_, by dsimp only; omega, by dsimp only; omega⟩
      · rw [ce_cons] at hJ
        rw [if_neg (by omega)] at hJ
        dsimp only
        rw [← hJ]; rfl
      · intro z hz2
        rw [List.take_add_one, hzi, Option.toList_some] at hz2
        rcases List.mem_append.mp hz2 with h | h
        · exact hall z h
        · rw [List.mem_singleton.mp h]; omega
  · rintro c u h1 tk2 ⟨hI, hJ, hl, hall, h0, h1'⟩ F' N'
    rw [List.take_length] at hall
    rw [List.drop_length] at hJ
    (try k_fold)
    (try (refine let_m F' ?_; clear F'; intro m9q F'm))
    k_steps
    refine' gList (Q := Q) (hret hall) (vs := c.1 ++ [.int (zs.length : Int) _]) ?cE ?cF ?cN ?cO
    (case cE => (have := ints_snoc' hI (zs.length : Int); rw [← hJ]; exact this _))
    (case cF => k_asm)
    (case cN => first | k_asm | (refine' cb_drop ?cbN ?cbS; (case cbN => assumption); (case cbS => kcj_all)))
    (case cO => (rename News _ _ _ ((_, W.listOf #[Value.int _ _] 0) :: _) => N9; exact off1_lt fun p hp => Heap.lt_size (N9 p (.tail _ (.tail _ hp))).1))

abbrev cA : Str := Str.ofString "us-ascii"
abbrev cL : Str := Str.ofString "iso-8859-1"
abbrev cU : Str := Str.ofString "utf-8"
def ulen (c : Int) : Int := if (55296 ≤ c ∧ c ≤ 57343) ∨ ¬ (0 ≤ c ∧ c ≤ 1114111) then 0 else 1 + (if c > 127 then 1 else 0) + (if c > 2047 then 1 else 0) + (if c > 65535 then 1 else 0)
def over (c : Int) : Int → Bool := fun x => decide (c > x)
theorem flt_yes {c x : Int} {xs : List Int} (h : c > x) : (xs ++ [x]).filter (over c) = xs.filter (over c) ++ [x] := by
  rw [List.filter_append, List.filter_cons_of_pos (by simpa [over] using h)]; rfl
theorem flt_no {c x : Int} {xs : List Int} (h : ¬ c > x) : (xs ++ [x]).filter (over c) = xs.filter (over c) := by
  rw [List.filter_append, List.filter_cons_of_neg (by simpa [over] using h), List.filter_nil, List.append_nil]
/-- a test that comes out false, on whatever way -/
def Falls (s : Shared) (b : Bool) (s' : Shared) : Prop := b = false ∧ ∃ k, s' = { s with toks := k }
theorem Falls.of {s : Shared} {k : Nat} : Falls s false { s with toks := k } := ⟨rfl, k, rfl⟩
theorem if_falls {M : Model} {A : Around} {E : Value → Shared → Prop} {env : Env} {s : Shared} {test : Expr} {body : List Stmt} {pos : Pos} {Q : Flow → Shared → Prop} (h : wpAny M A (isTrue test env (eval test env)) (Falls s) E s) (hn : Hold (∀ k, Q .next { s with toks := k })) : wpAny M A (exec (.If test body [] pos) env) Q E s :=
  wpAny_If (wpAny_mono h (fun b s' hb => by obtain ⟨rfl, k, rfl⟩ := hb; exact wpAny_execs_nil (hn k)) (fun _ _ h => h))
theorem over_len (c : Int) : ((List.filter (over c) [127, 2047, 65535]).length : Int) = (if c > 127 then 1 else 0) + (if c > 2047 then 1 else 0) + (if c > 65535 then 1 else 0) := by
  unfold over
  by_cases h1 : c > 127 <;> by_cases h2 : c > 2047 <;> by_cases h3 : c > 65535 <;> simp [h1, h2, h3]
theorem utf8_length_at (w : World) (news : List (Addr × Obj)) (c : Int) (t : Tok) (h0 : 0 ≤ c) (h1 : ¬ (55296 ≤ c ∧ c ≤ 57343)) (h2 : c ≤ 1114111) : CG w 1 142 [.int c t] news (RI news (ulen c)) := by
  have h3 : ¬ (55296 ≤ c ∧ c ≤ 57343 ∨ ¬ (0 ≤ c ∧ c ≤ 1114111)) := fun h => h.elim h1 fun h => h ⟨h0, h2⟩
  unfold ulen
  rw [if_neg h3]
  w_top off
  intro mean mg mb dp un gd cn cs a ccd cl outer A₀ base h₀ L m s Q E B F X N T hk hd hu hret
  refine wpAny_call ?_
  k_dflt (refine' code_defC ?k1 ?k2 ?k3 ?k4 ?k5 ?kA ?kF ?kK ?k6 ?k7 ?k8 ?k9 ?kB ?kD ?_ ?c2 ?c3 ?c4; (case kA => exact rfl); (case kF => exact rfl); (case kK => assumption); (case k1 => k_asm); (case k2 => k_asm); (case k3 => k_asm); (case k4 => k_asm); (case k5 => k_asm); (case k6 => k_is); (case k7 => k_is); (case k8 => ktr_room); (case k9 => exact BindsTo.of_eq rfl); (case kB => exact rfl); (case kD => decide +kernel); (case c2 => exact rfl); (case c3 => exact rfl); (case c4 => exact rfl); k_whole)
  intro g' L' h' tk' cells' FG' F' N' Y' B' X' T' l1
  obtain ⟨oA, hE, dA⟩ := CellsAre.one Y'; subst hE; clear Y'
  (try simp only [List.cons_append, List.nil_append] at N'); (try dsimp only); (try k_lift B'); (try k_fold); (try (refine let_AE ?_; intro A9q e9q)); (try ((with_reducible rename Fr _ _ _ _ => F9q); refine let_m F9q ?_; clear F9q; intro m9q F'))
  have hMC : MyComp := True.intro
  have hmkP111 : OwnW := True.intro
  k_with "exec If" => (guard_hyp hmkP111; k_here; k_dflt (refine' if_falls ?_ ?_))
  have hmkP112 : OwnW := True.intro
  k_with "pyIter ref" => (guard_hyp hmkP112; k_dflt (refine' (id : Hold _ → _) ?_))
  (try k_fold)
  k_steps
  any_goals exact Falls.of
  intro k9
  dsimp only
  (try k_fold)
  k_steps
  rename News _ _ _ _ => NN
  show wpAny _ _ _ _ _ _
  k_dflt (refine' cpT_tupC (its := #[.int 127 _, .int 2047 _, .int 65535 _]) (fun i ys => IntsAre ys ((([127, 2047, 65535] : List Int).take i).filter (over c))) ?_ NN (Or.inr ⟨_, List.mem_cons_self, rfl, _, rfl⟩) rfl ?_ IntsAre.nil ?_ ?_)
  · k_asm
  · exact Nat.le_of_ble_eq_true rfl
  · intro i v ys I oI C oC D m₂ h1 tk E' hi hJ hC hx F' N' off ne
    obtain ⟨x, tx, rfl, hx9⟩ : ∃ x tx, v = Value.int x tx ∧ ([127, 2047, 65535] : List Int)[i]? = some x := by
      match i, hi with
      | 0, hi => exact ⟨_, _, (Option.some.inj hi).symm, rfl⟩
      | 1, hi => exact ⟨_, _, (Option.some.inj hi).symm, rfl⟩
      | 2, hi => exact ⟨_, _, (Option.some.inj hi).symm, rfl⟩
    (try k_fold)
    k_steps
    · rename (c > x) => e1
      refine' LCg.CompEnd.intro ?lpF ?lpN _ ?lpa ?lpo ?lps ⟨(), rfl, ?_⟩
      (case lpF => k_asm)
      (case lpN => k_asm)
      (case lpa => kcf_all)
      (case lpo => first | assumption | (simp only [LCg.Off3, and_true]; done) | (simp only [LCg.Off3, and_true]; assumption))
      (case lps => first | trivial | assumption | lcg_src | exact (Or.inr ⟨_, List.mem_cons_self, rfl, _, rfl⟩))
      rw [List.take_add_one, hx9, Option.toList_some, flt_yes e1]
      exact ints_snoc' hJ _ _
    · rename (¬ c > x) => e1
      refine' LCg.CompEnd.intro ?lpF ?lpN _ ?lpa ?lpo ?lps ⟨(), rfl, ?_⟩
      (case lpF => k_asm)
      (case lpN => k_asm)
      (case lpa => kcf_all)
      (case lpo => first | assumption | (simp only [LCg.Off3, and_true]; done) | (simp only [LCg.Off3, and_true]; assumption))
      (case lps => first | trivial | assumption | lcg_src | exact (Or.inr ⟨_, List.mem_cons_self, rfl, _, rfl⟩))
      rw [List.take_add_one, hx9, Option.toList_some, flt_no e1]
      exact hJ
  · intro g ys hJ
    have hl := hJ.length
    have hl2 := List.length_filter_le (over c) ((([127, 2047, 65535] : List Int)).take 3)
    have hl3 : ys.length ≤ 3 := by rw [hl]; exact hl2
    (try k_fold)
    k_steps
    refine' gInt (Q := Q) hret ?_ ?cF ?cN
    (case cF => k_asm)
    (case cN => first | k_asm | (refine' cb_drop ?cbN ?cbS; (case cbN => assumption); (case cbS => kcj_all)))
    show 1 + ((List.filter (over c) [127, 2047, 65535]).length : Int) = _
    rw [over_len, Int.add_assoc 1, Int.add_assoc 1, Int.add_assoc]
/-- the codes that are served -/
def Cod (c : Int) : Prop := (0 ≤ c ∧ c < 55296) ∨ (65536 ≤ c ∧ c ≤ 1114111)
theorem utf8_length_c (w : World) (news : List (Addr × Obj)) (c : Int) (t : Tok) (hc : Cod c) : CG w 1 142 [.int c t] news (RI news (ulen c)) := by
  exact utf8_length_at w news c t (by rcases hc with h | h; exact h.1; exact Int.le_trans (by decide) h.1) (by rcases hc with h | h <;> omega) (by rcases hc with h | h; exact Int.le_of_lt (Int.lt_trans h.2 (by decide)); exact h.2)
theorem layP111 : True := by
  k_with "my call ref" => ((k_here; (with_reducible show wpAny _ _ (PySem.call (Value.ref 142) _) _ _ _); k_dflt (refine' called (utf8_length_c _ _ _ _ (by with_reducible assumption)) ?kBZ9 ?kFZ9 ?kXZ9 ?kNZ9 ?kTZ9 ?kKZ9 ?kDZ9 ?kUZ9 ?_; (case kBZ9 | kFZ9 | kXZ9 | kNZ9 | kTZ9 => k_asm); (case kKZ9 => first | exact rfl | assumption); (case kDZ9 => ktr_room); (case kUZ9 => ktr_units)); intro t'q h'q tk'q F'q N'q))
  exact True.intro
theorem cod_in {c : Int} (h : Cod c) : ¬ ((55296 ≤ c ∧ c ≤ 57343) ∨ ¬ (0 ≤ c ∧ c ≤ 1114111)) := by
  rcases h with h | h
  · exact fun h' => h'.elim (fun h' => absurd (Int.lt_of_lt_of_le h.2 h'.1) (Int.lt_irrefl _)) fun h' => h' ⟨h.1, Int.le_of_lt (Int.lt_of_lt_of_le h.2 (by decide))⟩
  · exact fun h' => h'.elim (fun h' => absurd (Int.le_trans h.1 h'.2) (by decide)) fun h' => h' ⟨Int.le_trans (by decide) h.1, h.2⟩
/-- the length of a sign, by its ranges -/
theorem ulen_eq {c : Int} (h : Cod c) : (c < 128 ∧ ulen c = 1) ∨ (128 ≤ c ∧ c < 2048 ∧ ulen c = 2) ∨ (2048 ≤ c ∧ c < 65536 ∧ ulen c = 3) ∨ (65536 ≤ c ∧ ulen c = 4) := by
  unfold ulen
  rw [if_neg (cod_in h)]
  by_cases h1 : c < 128
  · rw [if_neg (Int.not_lt.mpr (Int.le_of_lt_add_one h1)), if_neg (by omega), if_neg (by omega)]; exact Or.inl ⟨h1, rfl⟩
  · have h1 := Int.not_lt.mp h1
    rw [if_pos (Int.lt_of_lt_of_le (by decide) h1)]
    by_cases h2 : c < 2048
    · rw [if_neg (Int.not_lt.mpr (Int.le_of_lt_add_one h2)), if_neg (by omega)]; exact Or.inr (Or.inl ⟨h1, h2, rfl⟩)
    · have h2 := Int.not_lt.mp h2
      rw [if_pos (Int.lt_of_lt_of_le (by decide) h2)]
      by_cases h3 : c < 65536
      · rw [if_neg (Int.not_lt.mpr (Int.le_of_lt_add_one h3))]; exact Or.inr (Or.inr (Or.inl ⟨h2, h3, rfl⟩))
      · have h3 := Int.not_lt.mp h3
        rw [if_pos (Int.lt_of_lt_of_le (by decide) h3)]; exact Or.inr (Or.inr (Or.inr ⟨h3, rfl⟩))
theorem ulen_pos {c : Int} (h : Cod c) : 1 ≤ ulen c ∧ ulen c ≤ 4 := by
  rcases ulen_eq h with ⟨_, e⟩ | ⟨_, _, e⟩ | ⟨_, _, e⟩ | ⟨_, e⟩ <;> rw [e] <;> decide
def has (cs : Str) (c : Int) : Bool := if cs = cU then true else if cs = cA then decide (c < 128) else decide (c < 256)
theorem has_sign_at (w : World) (news : List (Addr × Obj)) (chs : Str) (c : Int) (t t' : Tok) (hc : Cod c) : CG w 2 198 [.str chs t, .int c t'] news (RO news (has chs c)) := by
  have hp := ulen_pos hc
  w_top off
  intro mean mg mb dp un gd cn cs a ccd cl outer A₀ base h₀ L m s Q E B F X N T hk hd hu hret
  refine wpAny_call ?_
  k_dflt cell_enter
  (try (refine let_AE ?_; intro A9q e9q)); (try ((with_reducible rename Fr _ _ _ _ => F9q); refine let_m F9q ?_; clear F9q; intro m9q F'))
  (try k_fold)
  k_steps
  all_goals
    refine' gBool (Q := Q) hret ?_ ?cF ?cN
    (case cF => k_asm)
    (case cN => first | k_asm | (refine' cb_drop ?cbN ?cbS; (case cbN => assumption); (case cbS => kcj_all)))
  · rename (chs == cU) = true => e1
    unfold has; rw [if_pos (eq_of_beq e1)]; exact decide_eq_true (by omega)
  · rename (chs == cU) = false => e1; rename (chs == cA) = true => e2
    unfold has; rw [if_neg (ne_of_beq_false e1), if_pos (eq_of_beq e2)]
  · rename (chs == cU) = false => e1; rename (chs == cA) = false => e2
    unfold has; rw [if_neg (ne_of_beq_false e1), if_neg (ne_of_beq_false e2)]
theorem layP112 : True := by
  k_with "my call ref" => ((k_here; (with_reducible show wpAny _ _ (PySem.call (Value.ref 198) _) _ _ _); k_dflt (refine' called (has_sign_at _ _ _ _ _ _ (by with_reducible assumption)) ?kBZ9 ?kFZ9 ?kXZ9 ?kNZ9 ?kTZ9 ?kKZ9 ?kDZ9 ?kUZ9 ?_; (case kBZ9 | kFZ9 | kXZ9 | kNZ9 | kTZ9 => k_asm); (case kKZ9 => first | exact rfl | assumption); (case kDZ9 => ktr_room); (case kUZ9 => ktr_units)); intro h'q tk'q F'q N'q))
  exact True.intro
theorem need_charset_at (w : World) (news : List (Addr × Obj)) (chs : Str) (t : Tok) (hc : chs = cA ∨ chs = cL ∨ chs = cU) : CG w 2 137 [.str chs t] news (RN news) := by
  have hca : ([cA, cL, cU] : List Str).any (· == chs) = true := by rcases hc with rfl | rfl | rfl <;> decide +kernel
  w_top off
  intro mean mg mb dp un gd cn cs a ccd cl outer A₀ base h₀ L m s Q E B F X N T hk hd hu hret
  refine wpAny_call ?_
  k_dflt cell_enter
  (try (refine let_AE ?_; intro A9q e9q)); (try ((with_reducible rename Fr _ _ _ _ => F9q); refine let_m F9q ?_; clear F9q; intro m9q F'))
  (try k_fold)
  k_steps
  refine' gNone (Q := Q) hret ?cF ?cN
  (case cF => k_asm)
  (case cN => first | k_asm | (refine' cb_drop ?cbN ?cbS; (case cbN => assumption); (case cbS => kcj_all)))

def u8 (c : Int) : List Int := if c < 128 then [c] else if c < 2048 then [192 + c / 64, 128 + c % 64] else if c < 65536 then [224 + c / 64 / 64, 128 + c / 64 % 64, 128 + c % 64] else [240 + c / 64 / 64 / 64, 128 + c / 64 / 64 % 64, 128 + c / 64 % 64, 128 + c % 64]
def lft (c : Int) : Nat → Int
  | 0 => c
  | n + 1 => lft c n / 64
def fnd (c : Int) : Nat → List Int
  | 0 => []
  | n + 1 => (128 + lft c n % 64) :: fnd c n
theorem fnd_len (c : Int) : ∀ n, (fnd c n).length = n
  | 0 => rfl
  | n + 1 => by rw [fnd, List.length_cons, fnd_len c n]
theorem lft_pos {c : Int} (h : 0 ≤ c) : ∀ n, 0 ≤ lft c n ∧ lft c n ≤ c
  | 0 => ⟨h, Int.le_refl _⟩
  | n + 1 => by have := lft_pos h n; rw [lft]; exact ⟨Int.ediv_nonneg this.1 (by decide), Int.le_trans (Int.ediv_le_self _ this.1) this.2⟩
theorem insert0 {prog : Program} {w : World} {A : Around} {E : Value → Shared → Prop} {s : Shared} {h₀ : Heap} {L D : Addr} {m : Str → Option Value} {news news' : List (Addr × Obj)} {its : List Value} {n : Nat} {v : Value} {u : Tok} {Q : Value → Shared → Prop} (F : Fr h₀ L s.heap m) (N : News h₀ L s.heap news) (U : Upd D (listOf its.toArray n) (listOf (v :: its).toArray (n + 1)) news news') (hz : its.length ≤ 16777216)
    (h : ∀ h', Fr h₀ L h' m → News h₀ L h' news' → Q .none { s with heap := h' }) : wpAny (model prog w) A (call (.builtin "list.insert") [.ref D, .int 0 u, v]) Q E s := by
  refine kl_insert F N (its := its.toArray) rfl ?_ U (by rw [sizeLine_eq]; exact hz) h
  show kl_ins its 0 v = v :: its
  cases its <;> rfl
theorem layP121 : True := by
  k_with "my call builtin:list.insert" => ((k_here; k_dflt (refine' insert0 (its := _) ?k1Z9 ?k2Z9 ?k3Z9 ?zZ9 ?_; (case k1Z9 => k_asm); (case k2Z9 => k_asm); (case k3Z9 => k_upd); (case zZ9 => omega); k_whole); intro h'q F'q N'q; (try k_sweep)))
  exact True.intro
theorem u8_one {c : Int} (hc : Cod c) (h : ulen c < 2) : u8 c = [c] := by
  rcases ulen_eq hc with ⟨h1, e⟩ | ⟨_, _, e⟩ | ⟨_, _, e⟩ | ⟨_, e⟩
  · exact if_pos h1
  all_goals (rw [e] at h; exact absurd h (by decide))
theorem u8_more {c : Int} (hc : Cod c) (h : ¬ ulen c < 2) : (256 - Int.fdiv 256 (2 ^ (ulen c).toNat) + lft c (ulen c - 1).toNat) :: fnd c (ulen c - 1).toNat = u8 c := by
  have hq : (ulen c = 2 ∧ 128 ≤ c ∧ c < 2048) ∨ (ulen c = 3 ∧ 2048 ≤ c ∧ c < 65536) ∨ (ulen c = 4 ∧ 65536 ≤ c) := by
    rcases ulen_eq hc with ⟨h1, e⟩ | ⟨h1, h2, e⟩ | ⟨h1, h2, e⟩ | ⟨h1, e⟩
    · rw [e] at h; exact absurd (by decide) h
    · exact Or.inl ⟨e, h1, h2⟩
    · exact Or.inr (Or.inl ⟨e, h1, h2⟩)
    · exact Or.inr (Or.inr ⟨e, h1⟩)
  unfold u8
  rcases hq with ⟨e, h1, h2⟩ | ⟨e, h1, h2⟩ | ⟨e, h1⟩ <;> rw [e]
  · rw [if_neg (Int.not_lt.mpr h1), if_pos h2]
    show [256 - Int.fdiv 256 4 + c / 64, 128 + c % 64] = _
    rw [show Int.fdiv 256 4 = 64 by decide]; congr 1
  · rw [if_neg (Int.not_lt.mpr (Int.le_trans (by decide) h1)), if_neg (Int.not_lt.mpr h1), if_pos h2]
    show [256 - Int.fdiv 256 8 + c / 64 / 64, 128 + c / 64 % 64, 128 + c % 64] = _
    rw [show Int.fdiv 256 8 = 32 by decide]; congr 1
  · rw [if_neg (Int.not_lt.mpr (Int.le_trans (by decide) h1)), if_neg (Int.not_lt.mpr (Int.le_trans (by decide) h1)), if_neg (Int.not_lt.mpr h1)]
    show [256 - Int.fdiv 256 16 + c / 64 / 64 / 64, 128 + c / 64 / 64 % 64, 128 + c / 64 % 64, 128 + c % 64] = _
    rw [show Int.fdiv 256 16 = 16 by decide]; congr 1
theorem utf8_octets_at (w : World) (news : List (Addr × Obj)) (c : Int) (t : Tok) (hc : Cod c) : CG w 2 149 [.int c t] news (RLs news (u8 c)) := by
  have f64 : ∀ x : Int, Int.fdiv x 64 = x / 64 := fun x => Int.fdiv_eq_ediv_of_nonneg _ (by decide)
  have m64 : ∀ x : Int, Int.fmod x 64 = x % 64 := fun x => Int.fmod_eq_emod_of_nonneg _ (by decide)
  have hq := ulen_pos hc
  have hc0 : 0 ≤ c ∧ c ≤ 1114111 := hc.elim (fun h => ⟨h.1, Int.le_trans (Int.le_of_lt h.2) (by decide)⟩) (fun h => ⟨Int.le_trans (by decide) h.1, h.2⟩)
  have hn1 : 0 ≤ ulen c - 1 := Int.sub_nonneg_of_le hq.1
  have hn2 : ulen c - 1 ≤ 3 := Int.sub_le_sub_right hq.2 1
  have hn3 : (ulen c - 1).toNat ≤ 3 := Int.toNat_le.mpr hn2
  w_top off
  intro mean mg mb dp un gd cn cs a ccd cl outer A₀ base h₀ L m s Q E B F X N T hk hd hu hret
  refine wpAny_call ?_
  k_dflt cell_enter
  (try (refine let_AE ?_; intro A9q e9q)); (try ((with_reducible rename Fr _ _ _ _ => F9q); refine let_m F9q ?_; clear F9q; intro m9q F'))
  have hmkP121 : OwnW := True.intro
  k_with "pyIter ref" => (guard_hyp hmkP121; k_dflt (refine' lp_range (n := (ulen c - 1).toNat) (σ := List Value × Nat × Int × Tok) (fun c' => listOf c'.1.toArray c'.2.1) (fun c' => [("left", .int c'.2.2.1 c'.2.2.2)]) [] (fun i c' => IntsAre c'.1 (fnd c i) ∧ c'.2.2.1 = lft c i) ([], 0, c, _) rfl (by assumption) (small_one (by omega) (by omega) (by omega) (by omega)) (rsz_up (by rw [Int.sub_zero]; exact (Int.toNat_of_nonneg hn1).symm)) (by k_asm) (by k_asm) (by kst_all) ⟨.nil, rfl⟩ ?_ ?_))
  (try k_fold)
  k_steps
  · refine' gList (Q := Q) hret (vs := (List.replicate (ulen c).toNat [Value.int c t]).flatten) ?cE ?cF ?cN ?cO
    (case cE => rw [u8_one hc (by assumption), show ulen c = 1 from Int.le_antisymm (Int.le_of_lt_add_one (by assumption)) hq.1]; exact .cons _ _ .nil)
    (case cF => k_asm)
    (case cN => first | k_asm | (refine' cb_drop ?cbN ?cbS; (case cbN => assumption); (case cbS => kcj_all)))
    (case cO => (rename (_ ∧ AllLt _ _) => hlt; exact off1_lt (allLt_mem _ hlt.2)))
  · rintro i k t2 c' u h1 tk2 own hi2 hk2 hoff ⟨hI, hJ⟩ F' N'
    have hl := hI.length
    rw [fnd_len] at hl
    have hp := lft_pos hc0.1 i
    have hz6 : c'.1.length ≤ 16777216 := hl ▸ Nat.le_trans (Nat.le_of_lt hi2) (Nat.le_trans hn3 (by decide))
    (try k_fold)
    (try (refine let_m F' ?_; clear F'; intro m9q F'm))
    k_steps
    refine' lp_end (_, _, Int.fdiv c'.2.2.1 64, _) ?lpF ?lpN ?lpn ?lpo ?lpa ?lpk ?lpr ?_
    (case lpF => k_asm)
    (case lpN => k_asm)
    (case lpn => kcf_all)
    (case lpo => kcf_all)
    (case lpa => exact rfl)
    (case lpk => first | exact List.forall_mem_nil _ | kst_all)
    (case lpr => (intro z9 h91 h92 h93; first | ((repeat (with_reducible refine lz_cond ?n9 ?_; (case n9 => first | exact h91 | exact lz_sto h93 rfl | exact lz_ps h92 rfl))); refine' (lz_off ?n9).trans ?_; (case n9 => first | exact lz_all h92 rfl | exact List.forall_mem_nil _); exact if_neg (lz_ns h93)) | ((try simp only [List.mem_cons, List.not_mem_nil, or_false, forall_eq, forall_eq_or_imp] at h92); first | (simp only [h91, if_false, kstB]; done) | (simp [kstB, h91, h92]; done) | (simp_all [kstB]; done))))
    refine ⟨?_, by dsimp only; rw [f64, hJ]; rfl⟩
    rw [fnd, ← hJ, ← m64]
    exact .cons _ _ hI
  · rintro c' u h1 tk2 ⟨hI, hJ⟩ F' N'
    have hl := hI.length
    rw [fnd_len] at hl
    have hp := lft_pos hc0.1 (ulen c - 1).toNat
    have hz6 : 0 + 1 + c'.1.length ≤ 16777216 := hl ▸ Nat.le_trans (Nat.add_le_add_left hn3 1) (by decide)
    (try k_fold)
    (try (refine let_m F' ?_; clear F'; intro m9q F'm))
    k_steps
    refine' gList (Q := Q) hret (vs := [.int _ _] ++ c'.1) ?cE ?cF ?cN ?cO
    (case cE => rw [← u8_more hc (by assumption), ← hJ]; exact .cons _ _ hI)
    (case cF => k_asm)
    (case cN => first | k_asm | (refine' cb_drop ?cbN ?cbS; (case cbN => assumption); (case cbS => kcj_all)))
    (case cO => (rename News _ _ _ ((_, W.listOf #[Value.int _ _] 0) :: _) => N9; exact off1_lt fun p hp => Heap.lt_size (N9 p (.tail _ (.tail _ hp))).1))

theorem layP131 : True := by
  k_with "my call ref" => ((k_here; (with_reducible show wpAny _ _ (PySem.call (Value.ref 149) _) _ _ _); k_dflt (refine' called (utf8_octets_at _ _ _ _ (by with_reducible assumption)) ?kBZ9 ?kFZ9 ?kXZ9 ?kNZ9 ?kTZ9 ?kKZ9 ?kDZ9 ?kUZ9 ?_; (case kBZ9 | kFZ9 | kXZ9 | kNZ9 | kTZ9 => k_asm); (case kKZ9 => first | exact rfl | assumption); (case kDZ9 => ktr_room); (case kUZ9 => ktr_units)); intro l'q vs'q n'q h'q tk'q hI'q F'q N'q o1'q; (try simp only [LCg.Off1, and_true] at o1'q); have hl9'q := hI'q.length))
  k_with "my call ref" => ((k_here; (with_reducible show wpAny _ _ (PySem.call (Value.ref 137) _) _ _ _); k_dflt (refine' called (need_charset_at _ _ _ _ (by first | with_reducible assumption | exact Or.inl rfl | exact Or.inr (Or.inl rfl) | exact Or.inr (Or.inr rfl))) ?kBZ9 ?kFZ9 ?kXZ9 ?kNZ9 ?kTZ9 ?kKZ9 ?kDZ9 ?kUZ9 ?_; (case kBZ9 | kFZ9 | kXZ9 | kNZ9 | kTZ9 => k_asm); (case kKZ9 => first | exact rfl | assumption); (case kDZ9 => ktr_room); (case kUZ9 => ktr_units)); intro h'q tk'q F'q N'q))
  k_with "my call ref" => ((k_here; (with_reducible show wpAny _ _ (PySem.call (Value.ref 198) _) _ _ _); k_dflt (refine' called (has_sign_at _ _ _ _ _ _ (by first | with_reducible assumption | exact Or.inl rfl | exact Or.inr (Or.inl rfl) | exact Or.inr (Or.inr rfl)) (by with_reducible assumption)) ?kBZ9 ?kFZ9 ?kXZ9 ?kNZ9 ?kTZ9 ?kKZ9 ?kDZ9 ?kUZ9 ?_; (case kBZ9 | kFZ9 | kXZ9 | kNZ9 | kTZ9 => k_asm); (case kKZ9 => first | exact rfl | assumption); (case kDZ9 => ktr_room); (case kUZ9 => ktr_units)); intro h'q tk'q F'q N'q))
  exact True.intro
def en (cs : Str) (c : Int) : List Int := if cs = cU then u8 c else [c]
/-- the codes of a text -/
def txI (z : Str) : List Int := z.cps.toList.map Int.ofNat
def CsOk (cs : Str) : Prop := cs = cA ∨ cs = cL ∨ cs = cU
theorem txI_len (z : Str) : (txI z).length = z.length := by unfold txI; rw [List.length_map]; rfl
theorem txI_get {z : Str} {i : Nat} (h : i < z.length) : (txI z)[i]? = some (z.cps.getD i 0 : Int) := by
  have hn : i < z.cps.size := h
  unfold txI; simp [hn, Array.getD_eq_getD_getElem?]
theorem cod_lim {c : Int} (hc : Cod c) : 0 ≤ c ∧ c ≤ 1114111 := hc.elim (fun h => ⟨h.1, Int.le_of_lt (Int.lt_trans h.2 (by decide))⟩) fun h => ⟨Int.le_trans (by decide) h.1, h.2⟩
theorem oct_tail (x : Int) : 0 ≤ 128 + x % 64 ∧ 128 + x % 64 < 256 :=
  ⟨Int.add_nonneg (by decide) (Int.emod_nonneg x (by decide)), Int.lt_trans (Int.add_lt_add_left (Int.emod_lt_of_pos x (by decide)) 128) (by decide)⟩
theorem oct_lead {x : Int} (a b : Int) (h0 : 0 ≤ x) (h1 : x < b) (ha : 0 ≤ a) (hab : a + b ≤ 256) : 0 ≤ a + x ∧ a + x < 256 :=
  ⟨Int.add_nonneg ha h0, Int.lt_of_lt_of_le (Int.add_lt_add_left h1 a) hab⟩
theorem in_cons {x : Int} {l : List Int} (h : 0 ≤ x ∧ x < 256) (hl : KBa.In l) : KBa.In (x :: l) := List.forall_mem_cons.mpr ⟨h, hl⟩
theorem in_nil : KBa.In [] := List.forall_mem_nil _
theorem u8_in {c : Int} (hc : Cod c) : KBa.In (u8 c) := by
  obtain ⟨h0, hm⟩ := cod_lim hc
  have d0 := Int.ediv_nonneg h0 (show (0 : Int) ≤ 64 by decide)
  have d1 := Int.ediv_nonneg d0 (show (0 : Int) ≤ 64 by decide)
  have d2 := Int.ediv_nonneg d1 (show (0 : Int) ≤ 64 by decide)
  unfold u8
  split
  · rename_i h; exact in_cons ⟨h0, Int.lt_trans h (by decide)⟩ in_nil
  · split
    · rename_i h; exact in_cons (oct_lead 192 32 d0 (Int.ediv_lt_of_lt_mul (by decide) h) (by decide) (by decide)) (in_cons (oct_tail _) in_nil)
    · split
      · rename_i h; exact in_cons (oct_lead 224 16 d1 (Int.ediv_lt_of_lt_mul (by decide) (Int.ediv_lt_of_lt_mul (by decide) h)) (by decide) (by decide)) (in_cons (oct_tail _) (in_cons (oct_tail _) in_nil))
      · exact in_cons (oct_lead 240 5 d2 (Int.ediv_lt_of_lt_mul (by decide) (Int.ediv_lt_of_lt_mul (by decide) (Int.ediv_lt_of_lt_mul (by decide) (Int.lt_of_le_of_lt hm (by decide))))) (by decide) (by decide)) (in_cons (oct_tail _) (in_cons (oct_tail _) (in_cons (oct_tail _) in_nil)))
theorem u8_len (c : Int) : 1 ≤ (u8 c).length ∧ (u8 c).length ≤ 4 := by unfold u8; (repeat' split) <;> simp
theorem en_in {cs : Str} {c : Int} (hc : Cod c) (h : has cs c = true) : KBa.In (en cs c) := by
  unfold en
  unfold has at h
  split
  · exact u8_in hc
  · rename_i e
    rw [if_neg e] at h
    refine in_cons ⟨(cod_lim hc).1, ?_⟩ in_nil
    split at h
    · exact Int.lt_trans (of_decide_eq_true h) (by decide)
    · exact of_decide_eq_true h
theorem en_len (cs : Str) (c : Int) : 1 ≤ (en cs c).length ∧ (en cs c).length ≤ 4 := by
  unfold en; split
  · exact u8_len c
  · simp
theorem octets_in_at (w : World) (news : List (Addr × Obj)) (chs z : Str) (t t' : Tok) (hcs : chs = cA ∨ chs = cL ∨ chs = cU) (hn : z.length ≤ 64) (hz : ∀ c ∈ txI z, Cod c ∧ has chs c = true) : CG w 4 205 [.str chs t, .str z t'] news (RB news ((txI z).flatMap (en chs))) := by
  have hfin : KBa.In ((txI z).flatMap (en chs)) := by
    intro n hn2
    obtain ⟨c, hc, h⟩ := List.mem_flatMap.mp hn2
    exact en_in (hz c hc).1 (hz c hc).2 n h
  generalize hee : en chs = ee at *
  w_top off
  intro mean mg mb dp un gd cn cs a ccd cl outer A₀ base h₀ L m s Q E B F X N T hk hd hu hret
  refine wpAny_call ?_
  k_dflt cell_enter
  (try (refine let_AE ?_; intro A9q e9q)); (try ((with_reducible rename Fr _ _ _ _ => F9q); refine let_m F9q ?_; clear F9q; intro m9q F'))
  have hmkP131 : OwnW := True.intro
  k_with "pyIter ref" => (guard_hyp hmkP131; k_dflt (refine' lp_range (n := z.length) (σ := List Value × List Int × Nat) (fun c => listOf c.1.toArray c.2.2) (fun c => []) ["code"] (fun i c => IntsAre c.1 c.2.1 ∧ c.2.1 = ((txI z).take i).flatMap ee ∧ c.1.length ≤ 4 * i) ([], [], 0) rfl (by assumption) (small_one (by omega) (by omega) (by omega) (by omega)) (rsz_up (by omega)) (by k_asm) (by k_asm) (fun _ hp => nomatch hp) ⟨.nil, rfl, Nat.zero_le _⟩ ?_ ?_))
  (try k_fold)
  k_steps
  · rintro i k t2 c u h1 tk2 own hi2 hk2 hoff ⟨hI, hJ, hl⟩ F' N'
    obtain rfl : k = (i : Int) := by rw [hk2, Int.zero_add, Int.mul_one]
    clear hk2
    have hzi := txI_get hi2
    obtain ⟨hcc, hhas⟩ := hz _ (List.mem_of_getElem? hzi)
    have hgi : (Txt.item z (i : Int)).cps.getD 0 0 = z.cps.getD i 0 := by rw [titem_eq (Int.natCast_nonneg i) (Int.ofNat_lt.mpr hi2)]; rfl
    rw [← hgi] at hzi hcc hhas
    have hl9 := u8_len ((Txt.item z (i : Int)).cps.getD 0 0 : Int)
    by_cases hU : chs = cU
    · subst hU
      (try k_fold)
      (try (refine let_m F' ?_; clear F'; intro m9q F'm))
      k_steps
      rename IntsAre _ (u8 _) => hI9
      refine' lp_end (_, c.2.1 ++ u8 ((Txt.item z (i : Int)).cps.getD 0 0 : Int), _) ?lpF ?lpN ?lpn ?lpo ?lpa ?lpk ?lpr ?_
      (case lpF => k_asm)
      (case lpN => k_asm)
      (case lpn => kcf_all)
      (case lpo => kcf_all)
      (case lpa => exact rfl)
      (case lpk => first | exact List.forall_mem_nil _ | kst_all)
      (case lpr => (intro z9 h91 h92 h93; first | ((repeat (with_reducible refine lz_cond ?n9 ?_; (case n9 => first | exact h91 | exact lz_sto h93 rfl | exact lz_ps h92 rfl))); refine' (lz_off ?n9).trans ?_; (case n9 => first | exact lz_all h92 rfl | exact List.forall_mem_nil _); exact if_neg (lz_ns h93)) | ((try simp only [List.mem_cons, List.not_mem_nil, or_false, forall_eq, forall_eq_or_imp] at h92); first | (simp only [h91, if_false, kstB]; done) | (simp [kstB, h91, h92]; done) | (simp_all [kstB]; done))))
      refine ⟨hI.append hI9, ?_, ?_⟩
      · rw [List.take_add_one, hzi, Option.toList_some, List.flatMap_append, hJ]; subst hee; simp [en]
      · dsimp only; rw [List.length_append]; exact Nat.add_le_add hl (hI9.length.symm ▸ hl9.2)
    · have hU2 : (chs == cU) = false := by simpa using hU
      (try k_fold)
      (try (refine let_m F' ?_; clear F'; intro m9q F'm))
      k_steps
      refine' lp_end (_, c.2.1 ++ [((Txt.item z (i : Int)).cps.getD 0 0 : Int)], _) ?lpF ?lpN ?lpn ?lpo ?lpa ?lpk ?lpr ?_
      (case lpF => k_asm)
      (case lpN => k_asm)
      (case lpn => kcf_all)
      (case lpo => kcf_all)
      (case lpa => exact rfl)
      (case lpk => first | exact List.forall_mem_nil _ | kst_all)
      (case lpr => (intro z9 h91 h92 h93; first | ((repeat (with_reducible refine lz_cond ?n9 ?_; (case n9 => first | exact h91 | exact lz_sto h93 rfl | exact lz_ps h92 rfl))); refine' (lz_off ?n9).trans ?_; (case n9 => first | exact lz_all h92 rfl | exact List.forall_mem_nil _); exact if_neg (lz_ns h93)) | ((try simp only [List.mem_cons, List.not_mem_nil, or_false, forall_eq, forall_eq_or_imp] at h92); first | (simp only [h91, if_false, kstB]; done) | (simp [kstB, h91, h92]; done) | (simp_all [kstB]; done))))
      refine ⟨ints_snoc' hI _ _, ?_, ?_⟩
      · rw [List.take_add_one, hzi, Option.toList_some, List.flatMap_append, hJ]; subst hee; simp [en, hU]
      · dsimp only; rw [List.length_append, List.length_singleton]; exact Nat.add_le_add hl (by decide)
  · rintro c u h1 tk2 ⟨hI, hJ, hl⟩ F' N'
    have hvl := hI.length
    rw [← txI_len, List.take_length] at hJ
    (try k_fold)
    (try (refine let_m F' ?_; clear F'; intro m9q F'm))
    k_steps
    (k_dflt (refine' KBa.make_K ?kbaF ?kbaN ?kbah ?kbal ?kbai ?_ ?kban ?_; (case kbaF => k_asm); (case kbaN => k_asm); (case kbah => rfl); (case kbal => kba_isList); (case kbai => kba_listInts); (case kban => kba_size)))
    · rw [hJ]; exact hfin
    · intro h' t' k' F' N' hin
      (try k_fold)
      (try (refine let_m F' ?_; clear F'; intro m9q F'm))
      k_steps
      refine' gBytes (Q := Q) hret ?_ ?cF ?cN
      (case cF => k_asm)
      (case cN => first | k_asm | (refine' cb_drop ?cbN ?cbS; (case cbN => assumption); (case cbS => kcj_all)))
      rw [KBa.ints_make hin, hJ]
theorem layP132 : True := by
  k_with "my call ref" => ((k_here; (with_reducible show wpAny _ _ (PySem.call (Value.ref 205) _) _ _ _); k_dflt (refine' called (octets_in_at _ _ _ _ _ _ (by first | with_reducible assumption | exact Or.inl rfl | exact Or.inr (Or.inl rfl) | exact Or.inr (Or.inr rfl)) (by omega) (by with_reducible assumption)) ?kBZ9 ?kFZ9 ?kXZ9 ?kNZ9 ?kTZ9 ?kKZ9 ?kDZ9 ?kUZ9 ?_; (case kBZ9 | kFZ9 | kXZ9 | kNZ9 | kTZ9 => k_asm); (case kKZ9 => first | exact rfl | assumption); (case kDZ9 => ktr_room); (case kUZ9 => ktr_units)); intro b'q t'q h'q tk'q kbEq9 F'q N'q))
  exact True.intro

abbrev wQ : Str := Str.ofString "Q"
abbrev wB : Str := Str.ofString "B"
def pay (way : Str) (ks : List Int) : List Int := if way = wQ then ks.flatMap qenc else b64 ks
theorem payload_at (w : World) (news : List (Addr × Obj)) (b : Array UInt8) (ks : List Int) (t t' : Tok) (way : Str) (hw : way = wQ ∨ way = wB) (hb : KBw.bInts b = ks) (hn : ks.length ≤ 2048) : CG w 6 259 [.bytes b t, .str way t'] news (RB news (pay way ks)) := by
  rcases hw with rfl | rfl
  all_goals
    intro mean mg mb dp un gd cn cs a ccd cl outer A₀ base h₀ L m s Q E B F X N T hk hd hu hret
    refine wpAny_call ?_
    k_dflt cell_enter
    (try (refine let_AE ?_; intro A9q e9q)); (try ((with_reducible rename Fr _ _ _ _ => F9q); refine let_m F9q ?_; clear F9q; intro m9q F'))
    (try k_fold)
    k_steps
    refine' gBytes (Q := Q) hret ?_ ?cF ?cN
    (case cF => k_asm)
    (case cN => first | k_asm | (refine' cb_drop ?cbN ?cbS; (case cbN => assumption); (case cbS => kcj_all)))
    unfold pay
    first
    | (rw [if_pos rfl]; assumption)
    | (rw [if_neg (by decide)]; assumption)
theorem layP141 : True := by
  k_with "my call ref" => ((k_here; (with_reducible show wpAny _ _ (PySem.call (Value.ref 259) _) _ _ _); k_dflt (refine' called (payload_at _ _ _ _ _ _ _ (by first | with_reducible assumption | exact Or.inl rfl | exact Or.inr rfl) (by kba_ints) (by omega)) ?kBZ9 ?kFZ9 ?kXZ9 ?kNZ9 ?kTZ9 ?kKZ9 ?kDZ9 ?kUZ9 ?_; (case kBZ9 | kFZ9 | kXZ9 | kNZ9 | kTZ9 => k_asm); (case kKZ9 => first | exact rfl | assumption); (case kDZ9 => ktr_room); (case kUZ9 => ktr_units)); intro b'q t'q h'q tk'q kbEq9 F'q N'q))
  exact True.intro
def fr (cs way : Str) (pl : List Int) : List Int := [61, 63] ++ (txI cs ++ ([63] ++ (txI way ++ ([63] ++ (pl ++ [63, 61])))))
theorem txI_app (a b : Str) : txI (a ++ b) = txI a ++ txI b := by
  unfold txI; rw [Str.cps_append, Array.toList_append, List.map_append]
theorem qm_len : (Str.ofString "?").length = 1 := by decide +kernel
theorem qm_txI : txI (Str.ofString "?") = [63] := by decide +kernel
theorem framed_word_at (w : World) (news : List (Addr × Obj)) (b : Array UInt8) (ks : List Int) (t t' t2 : Tok) (chs way : Str) (hc : KBa.In (txI chs)) (hw : KBa.In (txI way)) (hl : chs.length ≤ 16) (hl2 : way.length ≤ 16) (hb : KBw.bInts b = ks) (hn : ks.length ≤ 4096) : CG w 1 264 [.str chs t, .str way t', .bytes b t2] news (RB news (fr chs way ks)) := by
  have hq := qm_len
  have hz9 : KBa.In (txI (chs ++ Str.ofString "?" ++ way)) := by
    rw [txI_app, txI_app, qm_txI]
    intro n hn
    rcases List.mem_append.mp hn with h | h
    · rcases List.mem_append.mp h with h | h
      · exact hc n h
      · rw [List.mem_singleton.mp h]; decide
    · exact hw n h
  have hzl : (chs ++ Str.ofString "?" ++ way).length ≤ 33 := by rw [Str.length_append, Str.length_append]; omega
  have htl := txI_len (chs ++ Str.ofString "?" ++ way)
  w_top off
  intro mean mg mb dp un gd cn cs a ccd cl outer A₀ base h₀ L m s Q E B F X N T hk hd hu hret
  refine wpAny_call ?_
  k_dflt cell_enter
  (try (refine let_AE ?_; intro A9q e9q)); (try ((with_reducible rename Fr _ _ _ _ => F9q); refine let_m F9q ?_; clear F9q; intro m9q F'))
  have hMC : MyComp := True.intro
  have hmkP141 : OwnW := True.intro
  k_with "pyIter str" => (guard_hyp hmkP141; k_dflt (refine' cpU_str (σ := Unit) (fun _ => news) (fun i _ ys => IntsAre ys ((txI (chs ++ Str.ofString "?" ++ way)).take i)) () rfl (by show Str.length _ ≤ _; omega) (by k_asm) (by k_asm) .nil ?_ ?_))
  (try k_fold)
  k_steps
  · intro i k t c ys I oI C oC D m₂ h1 tk E' hi hJ hC hx F' N' off ne
    (try k_fold)
    k_steps
    refine' LCg.CompEnd.intro ?lpF ?lpN (news) ?lpa ?lpo ?lps ⟨(), rfl, ?_⟩
    (case lpF => k_asm)
    (case lpN => k_asm)
    (case lpa => kcf_all)
    (case lpo => first | assumption | (simp only [LCg.Off3, and_true]; done) | (simp only [LCg.Off3, and_true]; assumption))
    (case lps => first | trivial | assumption | lcg_src)
    have hi2 : i < (chs ++ Str.ofString "?" ++ way).length := by
      rcases Nat.lt_or_ge i (chs ++ Str.ofString "?" ++ way).cps.size with h | h
      · exact h
      · rw [Array.getElem?_eq_none h] at hi; cases hi
    rw [List.take_add_one, txI_get hi2, Option.toList_some, show (chs ++ Str.ofString "?" ++ way).cps.getD i 0 = k by rw [Array.getD_eq_getD_getElem?, hi]; rfl]
    exact ints_snoc' hJ _ _
  · intro g c ys hJ
    have hfull : List.take (chs ++ Str.ofString "?" ++ way).cps.size (txI (chs ++ Str.ofString "?" ++ way)) = txI (chs ++ Str.ofString "?" ++ way) := List.take_of_length_le (by rw [htl]; exact Nat.le_refl _)
    rw [hfull] at hJ
    have hvl := hJ.length
    (try k_fold)
    k_steps
    refine' gBytes (Q := Q) hret ?_ ?cF ?cN
    (case cF => k_asm)
    (case cN => first | k_asm | (refine' cb_drop ?cbN ?cbS; (case cbN => assumption); (case cbS => kcj_all)))
    exact (KBw.ints_app (KBw.ints_app (KBw.ints_app (KBw.ints_app rfl (KBa.ints_make hz9)) rfl) hb) rfl).trans (by rw [txI_app, txI_app, qm_txI, show KBw.bInts #[61, 63] = [61, 63] from rfl, show KBw.bInts #[63] = [63] from rfl, show KBw.bInts #[63, 61] = [63, 61] from rfl]; simp [fr])
theorem fr_len (chs way : Str) (pl : List Int) : (fr chs way pl).length = 6 + chs.length + way.length + pl.length := by
  unfold fr
  simp only [List.length_append, List.length_cons, List.length_nil, txI_len]; omega
theorem cs_len {chs : Str} (h : chs = cA ∨ chs = cL ∨ chs = cU) : chs.length ≤ 10 ∧ KBa.In (txI chs) := by
  have hA : txI cA = [117, 115, 45, 97, 115, 99, 105, 105] := by decide +kernel
  have hL : txI cL = [105, 115, 111, 45, 56, 56, 53, 57, 45, 49] := by decide +kernel
  have hU : txI cU = [117, 116, 102, 45, 56] := by decide +kernel
  rcases h with rfl | rfl | rfl
  · rw [← txI_len, hA]; exact ⟨by decide, by unfold KBa.In; decide⟩
  · rw [← txI_len, hL]; exact ⟨by decide, by unfold KBa.In; decide⟩
  · rw [← txI_len, hU]; exact ⟨by decide, by unfold KBa.In; decide⟩
theorem way_len {way : Str} (h : way = wQ ∨ way = wB) : way.length = 1 ∧ KBa.In (txI way) := by
  have hQ : txI wQ = [81] := by decide +kernel
  have hB : txI wB = [66] := by decide +kernel
  rcases h with rfl | rfl
  · rw [← txI_len, hQ]; exact ⟨by decide, by unfold KBa.In; decide⟩
  · rw [← txI_len, hB]; exact ⟨by decide, by unfold KBa.In; decide⟩
theorem layP142 : True := by
  k_with "my call ref" => ((k_here; (with_reducible show wpAny _ _ (PySem.call (Value.ref 264) _) _ _ _); k_dflt (refine' called (framed_word_at _ _ _ _ _ _ _ _ _ (by with_reducible assumption) (by with_reducible assumption) (by omega) (by omega) (by kba_ints) (by omega)) ?kBZ9 ?kFZ9 ?kXZ9 ?kNZ9 ?kTZ9 ?kKZ9 ?kDZ9 ?kUZ9 ?_; (case kBZ9 | kFZ9 | kXZ9 | kNZ9 | kTZ9 => k_asm); (case kKZ9 => first | exact rfl | assumption); (case kDZ9 => ktr_room); (case kUZ9 => ktr_units)); intro b'q t'q h'q tk'q kbEq9 F'q N'q))
  exact True.intro
def ens (chs : Str) (z : Str) : List Int := (txI z).flatMap (en chs)
theorem encoded_word_at (w : World) (news : List (Addr × Obj)) (z chs way : Str) (t t' t2 : Tok) (hcs : chs = cA ∨ chs = cL ∨ chs = cU) (hw : way = wQ ∨ way = wB) (hn : z.length ≤ 64) (hz : ∀ c ∈ txI z, Cod c ∧ has chs c = true) (h75 : (fr chs way (pay way (ens chs z))).length ≤ 75) : CG w 7 271 [.str z t, .str chs t', .str way t2] news (RB news (fr chs way (pay way (ens chs z)))) := by
  have hel : (ens chs z).length ≤ 256 := by
    have := flatMap_le (en chs) 4 (txI z) (fun c _ => (en_len chs c).2)
    rw [txI_len] at this
    unfold ens; omega
  have hf := fr_len chs way (pay way (ens chs z))
  obtain ⟨hcl, hci⟩ := cs_len hcs
  obtain ⟨hwl, hwi⟩ := way_len hw
  unfold ens at *
  have hwa : ([Str.ofString "Q", Str.ofString "B"] : List Str).any (· == way) = true := by rcases hw with rfl | rfl <;> decide +kernel
  w_top off
  intro mean mg mb dp un gd cn cs a ccd cl outer A₀ base h₀ L m s Q E B F X N T hk hd hu hret
  refine wpAny_call ?_
  k_dflt cell_enter
  (try (refine let_AE ?_; intro A9q e9q)); (try ((with_reducible rename Fr _ _ _ _ => F9q); refine let_m F9q ?_; clear F9q; intro m9q F'))
  (try k_fold)
  k_steps
  refine' gBytes (Q := Q) hret ?_ ?cF ?cN
  (case cF => k_asm)
  (case cN => first | k_asm | (refine' cb_drop ?cbN ?cbS; (case cbN => assumption); (case cbS => kcj_all)))
  assumption
theorem layP143 : True := by
  k_with "my call ref" => ((k_here; (with_reducible show wpAny _ _ (PySem.call (Value.ref 271) _) _ _ _); k_dflt (refine' called (encoded_word_at _ _ _ _ _ _ _ _ (by with_reducible assumption) (by with_reducible assumption) (by omega) (by with_reducible assumption) (by with_reducible assumption)) ?kBZ9 ?kFZ9 ?kXZ9 ?kNZ9 ?kTZ9 ?kKZ9 ?kDZ9 ?kUZ9 ?_; (case kBZ9 | kFZ9 | kXZ9 | kNZ9 | kTZ9 => k_asm); (case kKZ9 => first | exact rfl | assumption); (case kDZ9 => ktr_room); (case kUZ9 => ktr_units)); intro b'q t'q h'q tk'q kbEq9 F'q N'q))
  exact True.intro

def sz (chs way : Str) (c : Int) : Int := if way = Str.ofString "Q" then ((en chs c).flatMap qenc).length else (en chs c).length
theorem txI_one (k : Nat) : txI ⟨#[k]⟩ = [(k : Int)] := rfl
theorem str_at {z : Str} {i k : Nat} (hi : z.cps[i]? = some k) : (txI z)[i]? = some (k : Int) := by
  have hi2 : i < z.cps.size := by
    rcases Nat.lt_or_ge i z.cps.size with h | h
    · exact h
    · rw [Array.getElem?_eq_none h] at hi; cases hi
  rw [txI_get hi2, Array.getD_eq_getD_getElem?, hi]; rfl
theorem one_ok {z : Str} {i k : Nat} {P : Int → Prop} (hi : z.cps[i]? = some k) (hz : ∀ c ∈ txI z, P c) : ∀ c ∈ txI ⟨#[k]⟩, P c := by
  intro c hc
  rw [txI_one, List.mem_singleton] at hc
  rw [hc]; exact hz _ (List.mem_of_getElem? (str_at hi))
theorem full_take (z : Str) : (txI z).take z.cps.size = txI z := List.take_of_length_le (by rw [txI_len]; exact Nat.le_refl _)
theorem sign_sizes_at (w : World) (news : List (Addr × Obj)) (z chs way : Str) (t t' t2 : Tok) (hcs : chs = cA ∨ chs = cL ∨ chs = cU) (hw : way = Str.ofString "Q" ∨ way = Str.ofString "B") (hn : z.length ≤ 64) (hz : ∀ c ∈ txI z, Cod c ∧ has chs c = true) : CG w 6 276 [.str z t, .str chs t', .str way t2] news (RLs news ((txI z).map (sz chs way))) := by
  generalize hss : sz chs way = ss
  w_top off
  intro mean mg mb dp un gd cn cs a ccd cl outer A₀ base h₀ L m s Q E B F X N T hk hd hu hret
  refine wpAny_call ?_
  k_dflt (refine' code_defC ?k1 ?k2 ?k3 ?k4 ?k5 ?kA ?kF ?kK ?k6 ?k7 ?k8 ?k9 ?kB ?kD ?_ ?c2 ?c3 ?c4; (case kA => exact rfl); (case kF => exact rfl); (case kK => assumption); (case k1 => k_asm); (case k2 => k_asm); (case k3 => k_asm); (case k4 => k_asm); (case k5 => k_asm); (case k6 => k_is); (case k7 => k_is); (case k8 => ktr_room); (case k9 => exact BindsTo.of_eq rfl); (case kB => exact rfl); (case kD => decide +kernel); (case c2 => exact rfl); (case c3 => exact rfl); (case c4 => exact rfl); k_whole)
  intro g' L' h' tk' cells' FG' F' N' Y' B' X' T' l1
  obtain ⟨oA, oB, hE, dA, dB⟩ := CellsAre.two Y'; subst hE; clear Y'
  (try simp only [List.cons_append, List.nil_append] at N'); (try dsimp only); (try k_lift B'); (try k_fold); (try (refine let_AE ?_; intro A9q e9q)); (try ((with_reducible rename Fr _ _ _ _ => F9q); refine let_m F9q ?_; clear F9q; intro m9q F'))
  have hMC : MyComp := True.intro
  have hmkP151 : OwnW := True.intro
  k_with "pyIter str" => (guard_hyp hmkP151; k_dflt (refine' cpU_str (σ := Unit) (fun _ => (L' + 1 + 1, oA) :: (L' + 1, oB) :: news) (fun i _ ys => BtsAre ys (((txI z).take i).map (en chs))) () rfl (by show Str.length _ ≤ _; omega) (by k_asm) (by k_asm) .nil ?_ ?_))
  have hmkP152 : OwnW := True.intro
  k_with "pyIter ref" => (guard_hyp hmkP152; k_dflt (refine' (id : Hold _ → _) ?_))
  (try k_fold)
  k_steps
  · intro i k t c ys I oI C oC D m₂ h1 tk E' hi hJ hC hx F' N' off ne
    have ho := one_ok hi hz
    have hl9 : (⟨#[k]⟩ : Str).length = 1 := rfl
    (try k_fold)
    k_steps
    refine' LCg.CompEnd.intro ?lpF ?lpN ((L' + 1 + 1, oA) :: (L' + 1, oB) :: news) ?lpa ?lpo ?lps ⟨(), rfl, ?_⟩
    (case lpF => k_asm)
    (case lpN => k_asm)
    (case lpa => kcf_all)
    (case lpo => first | assumption | (simp only [LCg.Off3, and_true]; done) | (simp only [LCg.Off3, and_true]; assumption))
    (case lps => first | trivial | assumption | lcg_src)
    rw [List.take_add_one, str_at hi, Option.toList_some, List.map_append]
    refine hJ.snoc ?_
    rename (KBw.bInts _ = _) => hb9
    rw [hb9, txI_one]; simp
  · intro g c ys hJ
    rw [full_take] at hJ
    have hvl := hJ.length
    rw [List.length_map, txI_len] at hvl
    (try k_fold)
    k_steps
    rename (News _ _ _ ((_, LCg.lst ys) :: _)) => NN
    show wpAny _ _ _ _ _ _
    k_dflt (refine' cpU_listC (its := ys.toArray) (fun i ys2 => IntsAre ys2 (((txI z).take i).map ss)) ?_ NN (Or.inr ⟨_, List.mem_cons_self, rfl, _, rfl⟩) rfl ?_ IntsAre.nil ?_ ?_)
    · k_asm
    · rw [List.size_toArray]; omega
    · intro i v ys2 I oI C oC D m₂ h1 tk E' hi hJ2 hC hx F' N' off ne
      obtain ⟨b9, t9, ks9, hk9, rfl, hb9⟩ := hJ.get i v (by simpa using hi)
      rw [List.getElem?_map] at hk9
      obtain ⟨c9, hc9, rfl⟩ := Option.map_eq_some_iff.mp hk9
      have hl9 := (en_len chs c9).2
      have hq9 : ((en chs c9).flatMap qenc).length ≤ 3 * (en chs c9).length := flatMap_le qenc 3 _ (fun a _ => by unfold qenc; split <;> (try split) <;> simp)
      rcases hw with e9 | e9
      all_goals
        subst e9
        (try k_fold)
        k_steps
        refine' LCg.CompEnd.intro ?lpF ?lpN _ ?lpa ?lpo ?lps ⟨(), rfl, ?_⟩
        (case lpF => k_asm)
        (case lpN => k_asm)
        (case lpa => kcf_all)
        (case lpo => first | assumption | (simp only [LCg.Off3, and_true]; done) | (simp only [LCg.Off3, and_true]; assumption))
        (case lps => first | trivial | assumption | lcg_src | exact (Or.inr ⟨_, List.mem_cons_self, rfl, _, rfl⟩))
        rw [List.take_add_one, hc9, Option.toList_some, List.map_append]
        refine hJ2.append ?_
        subst hss
        unfold sz
        first
        | (rw [List.map_cons, if_pos rfl]; exact .cons _ _ .nil)
        | (rw [List.map_cons, if_neg (by decide)]; exact .cons _ _ .nil)
    · intro g ys2 hJ2
      rw [List.size_toArray, hvl, ← txI_len, List.take_length] at hJ2
      (try k_fold)
      k_steps
      subst hss
      refine' gList (Q := Q) hret hJ2 ?cF ?cN ?cO
      (case cF => k_asm)
      (case cN => first | k_asm | (refine' cb_drop ?cbN ?cbS; (case cbN => assumption); (case cbS => kcj_all)))
      (case cO => first | assumption | (rename (_ ∧ _ ∧ _ ∧ LCg.Off1 _ _) => h9; exact h9.2.2.2))

theorem slice_txI {z : Str} {a b : Int} (h0 : 0 ≤ a) (h1 : a ≤ b) (h2 : b ≤ z.length) : txI (Txt.slice z (some a) (some b)) = ((txI z).drop a.toNat).take (b - a).toNat := by
  obtain ⟨m, rfl⟩ := Int.eq_ofNat_of_zero_le h0
  obtain ⟨n, rfl⟩ := Int.eq_ofNat_of_zero_le (Int.le_trans h0 h1)
  have hm : m ≤ n := Int.ofNat_le.mp h1
  have hn : n ≤ z.length := Int.ofNat_le.mp h2
  have hs : (z.cps.toList.drop m).take (n - m) = (PySem.Builtin.Str.strSliceIndices (some (m : Int)) (some (n : Int)) 1 z.length).filterMap (z.cps[·]?) := (PySem.StrLaws.sliced_plain z hm hn).symm
  have hl : (PySem.Builtin.Str.strSliceIndices (some (m : Int)) (some (n : Int)) 1 z.length).length = n - m := by
    rw [PySem.StrLaws.strSliceIndices_plain hm hn, List.length_map, List.length_range]
  show txI (Txt.slice z (some (m : Int)) (some (n : Int))) = ((txI z).drop m).take ((n : Int) - m).toNat
  rw [Int.toNat_sub]
  unfold Txt.slice
  rw [hl]
  split
  · rename_i e
    simp only [beq_self_eq_true, Bool.true_and, beq_iff_eq] at e
    have : m = 0 ∧ n = z.length := by omega
    rw [this.1, this.2, List.drop_zero, Nat.sub_zero, ← txI_len, List.take_length]
  · rw [← hs]
    unfold txI
    rw [← List.map_drop, ← List.map_take]

theorem unq_ne {c : Int} (h : c ≠ 61) (r : List Int) : unq (c :: r) = c :: unq r := by
  match r with
  | [] => rfl
  | [d] => rfl
  | d :: e :: r => show (if c = 61 ∧ _ then _ else _) = _; rw [if_neg (fun x => h x.1)]
theorem unq_eq {d e : Int} (h1 : 0 ≤ hexw d) (h2 : 0 ≤ hexw e) (r : List Int) : unq (61 :: d :: e :: r) = (16 * hexw d + hexw e) :: unq r := by
  show (if (61 : Int) = 61 ∧ _ then _ else _) = _; rw [if_pos ⟨rfl, h1, h2⟩]
theorem hx_cases {n : Int} (h0 : 0 ≤ n) (h1 : n < 16) : hexw (hx n) = n ∧ hx n ≠ 95 ∧ hx n ≠ 63 ∧ 33 ≤ hx n ∧ hx n ≤ 126 := by
  have : ∀ j : Fin 16, hexw (hx (j.1 : Int)) = (j.1 : Int) ∧ hx j.1 ≠ 95 ∧ hx j.1 ≠ 63 ∧ 33 ≤ hx j.1 ∧ hx j.1 ≤ 126 := by decide
  obtain ⟨m, rfl⟩ := Int.eq_ofNat_of_zero_le h0
  exact this ⟨m, by omega⟩
theorem und_id {c : Int} (h : c ≠ 95) : und c = c := if_neg h
theorem ws_facts {c : Int} (h : c ∈ WS) : c ≠ 95 ∧ c ≠ 61 ∧ c ≠ 63 ∧ 33 ≤ c ∧ c ≤ 126 := by
  have : ∀ c ∈ WS, c ≠ 95 ∧ c ≠ 61 ∧ c ≠ 63 ∧ 33 ≤ c ∧ c ≤ 126 := by decide
  exact this c h
theorem qenc_cases (c : Int) : (c = 32 ∧ qenc c = [95]) ∨ (c ∈ WS ∧ qenc c = [c]) ∨ qenc c = [61, hx (c / 16), hx (c % 16)] := by
  unfold qenc
  by_cases h : c = 32
  · exact .inl ⟨h, if_pos h⟩
  · rw [if_neg h]
    by_cases h2 : c ∈ WS
    · exact .inr (.inl ⟨h2, if_pos h2⟩)
    · exact .inr (.inr (if_neg h2))
theorem q_back (ks : List Int) (h : KBa.In ks) : unq ((ks.flatMap qenc).map und) = ks := by
  induction ks with
  | nil => rfl
  | cons c r ih =>
    have ih := ih fun n hn => h n (List.mem_cons_of_mem _ hn)
    have hc := h c List.mem_cons_self
    rw [List.flatMap_cons, List.map_append]
    rcases qenc_cases c with ⟨rfl, e⟩ | ⟨e2, e⟩ | e
    · rw [e]
      show unq (32 :: ((r.flatMap qenc).map und)) = _
      rw [unq_ne (by decide), ih]
    · rw [e]
      have f := ws_facts e2
      show unq (und c :: ((r.flatMap qenc).map und)) = _
      rw [und_id f.1, unq_ne f.2.1, ih]
    · rw [e]
      obtain ⟨a1, a2, _⟩ := hx_cases (n := c / 16) (by omega) (by omega)
      obtain ⟨b1, b2, _⟩ := hx_cases (n := c % 16) (by omega) (by omega)
      show unq (61 :: und (hx (c / 16)) :: und (hx (c % 16)) :: ((r.flatMap qenc).map und)) = _
      rw [und_id a2, und_id b2, unq_eq (by omega) (by omega), ih, a1, b1]
      congr 1; omega
theorem q_iws (ks : List Int) (h : KBa.In ks) : ∀ c ∈ ks.flatMap qenc, 33 ≤ c ∧ c ≤ 126 ∧ c ≠ 63 := by
  intro c hc
  obtain ⟨k, hk, hq⟩ := List.mem_flatMap.mp hc
  have hk := h k hk
  unfold qenc at hq
  split at hq
  · simp at hq; omega
  · split at hq
    · rename_i e; have f := ws_facts e; simp at hq; subst hq; omega
    · have a := hx_cases (n := k / 16) (by omega) (by omega)
      have b := hx_cases (n := k % 16) (by omega) (by omega)
      simp at hq
      rcases hq with rfl | rfl | rfl
      · decide
      · exact ⟨a.2.2.2.1, a.2.2.2.2, a.2.2.1⟩
      · exact ⟨b.2.2.2.1, b.2.2.2.2, b.2.2.1⟩
theorem al_at {v : Int} (h0 : 0 ≤ v) (h1 : v < 64) : alx (AL.getD v.toNat 0) = some v ∧ AL.getD v.toNat 0 ≠ 61 ∧ 33 ≤ AL.getD v.toNat 0 ∧ AL.getD v.toNat 0 ≤ 126 ∧ AL.getD v.toNat 0 ≠ 63 := by
  have : ∀ j : Fin 64, alx (AL.getD j.1 0) = some (j.1 : Int) ∧ AL.getD j.1 0 ≠ 61 ∧ 33 ≤ AL.getD j.1 0 ∧ AL.getD j.1 0 ≤ 126 ∧ AL.getD j.1 0 ≠ 63 := by decide
  obtain ⟨m, rfl⟩ := Int.eq_ofNat_of_zero_le h0
  exact this ⟨m, Int.ofNat_lt.mp h1⟩
/-- the worths of a group -/
def gws (ks : List Int) : List Int := (List.range (ks.length + 1)).map (fun j : Nat => (tot ks * 2 ^ (6 * ((ks.length : Int) + 1) - 8 * (ks.length : Int)).toNat).fdiv (2 ^ (6 * ((ks.length : Int) + 1 - 1 + (j : Int) * -1)).toNat) % 64)
theorem gcs_gws (ks : List Int) : gcs ks = (gws ks).map fun v => AL.getD v.toNat 0 := by
  unfold gcs gws gco; rw [List.map_map]; rfl
theorem gws_in (ks : List Int) : ∀ v ∈ gws ks, 0 ≤ v ∧ v < 64 := by
  intro v hv
  obtain ⟨j, _, rfl⟩ := List.mem_map.mp hv
  exact ⟨Int.emod_nonneg _ (by decide), Int.emod_lt_of_pos _ (by decide)⟩
theorem gcs_filter (ks : List Int) : (gcs ks).filterMap alx = gws ks := by
  rw [gcs_gws, List.filterMap_map]
  have : ∀ l : List Int, (∀ v ∈ l, 0 ≤ v ∧ v < 64) → l.filterMap (alx ∘ fun v => AL.getD v.toNat 0) = l := by
    intro l
    induction l with
    | nil => intro _; rfl
    | cons v l ih =>
      intro h
      have hv := h v List.mem_cons_self
      rw [List.filterMap_cons, show (alx ∘ fun v => AL.getD v.toNat 0) v = some v from (al_at hv.1 hv.2).1, ih fun x hx => h x (List.mem_cons_of_mem _ hx)]
  exact this _ (gws_in ks)
theorem gcs_facts (ks : List Int) : ∀ c ∈ gcs ks, c ≠ 61 ∧ 33 ≤ c ∧ c ≤ 126 ∧ c ≠ 63 := by
  intro c hc
  rw [gcs_gws] at hc
  obtain ⟨v, hv, rfl⟩ := List.mem_map.mp hc
  have := gws_in ks v hv
  exact (al_at this.1 this.2).2
theorem pe_facts (ks : List Int) : ∀ c ∈ pe ks, c ≠ 61 ∧ 33 ≤ c ∧ c ≤ 126 ∧ c ≠ 63 := by
  intro c hc
  obtain ⟨i, _, h⟩ := List.mem_flatMap.mp hc
  exact gcs_facts _ c h
theorem b64_iws (ks : List Int) : ∀ c ∈ b64 ks, 33 ≤ c ∧ c ≤ 126 ∧ c ≠ 63 := by
  intro c hc
  rcases List.mem_append.mp hc with h | h
  · exact (pe_facts ks c h).2
  · rw [List.eq_of_mem_replicate h]; decide
/-- the worths of the whole -/
def pw (ks : List Int) : List Int := (List.range ((ks.length + 2) / 3)).flatMap fun i => gws ((ks.drop (3 * i)).take 3)
theorem flatMap_filterMap {α β γ : Type} (f : α → List β) (g : β → Option γ) : ∀ l : List α, (l.flatMap f).filterMap g = l.flatMap fun a => (f a).filterMap g
  | [] => rfl
  | a :: l => by rw [List.flatMap_cons, List.flatMap_cons, List.filterMap_append, flatMap_filterMap f g l]
theorem wor_b64 (ks : List Int) : wor (b64 ks) = pw ks := by
  unfold wor b64
  have h : (pe ks ++ List.replicate ((-(ks.length : Int)).fmod 3).toNat 61).takeWhile (· ≠ 61) = pe ks := by
    rw [List.takeWhile_append_of_pos (fun c hc => by simpa using (pe_facts ks c hc).1)]
    have : ∀ n, (List.replicate n (61 : Int)).takeWhile (· ≠ 61) = [] := by intro n; cases n <;> simp [List.replicate_succ]
    rw [this, List.append_nil]
  rw [h]
  unfold pe pw
  rw [flatMap_filterMap]
  congr 1; funext i; exact gcs_filter _
/-- the groups of four, read back -/
def dg (ws : List Int) : List Int := (List.range ((ws.length + 3) / 4)).flatMap fun i : Nat => if (ws.length : Int) - 4 * (i : Int) > 1 then gos ((ws.drop (4 * i)).take 4) else []
theorem dg4 (a b c d : Int) (r : List Int) : dg (a :: b :: c :: d :: r) = gos [a, b, c, d] ++ dg r := by
  unfold dg
  rw [show ((a :: b :: c :: d :: r).length + 3) / 4 = (r.length + 3) / 4 + 1 from Nat.add_div_right (r.length + 3) (Nat.succ_pos 3), List.range_succ_eq_map, List.flatMap_cons, List.flatMap_map]
  congr 1
  · rw [if_pos (by simp only [List.length_cons]; omega)]; rfl
  · congr 1; funext i
    have e : (a :: b :: c :: d :: r).drop (4 * i.succ) = r.drop (4 * i) := by
      rfl
    rw [e]
    by_cases h : (r.length : Int) - 4 * (i : Int) > 1
    · rw [if_pos h, if_pos (by simp only [List.length_cons]; omega)]
    · rw [if_neg h, if_neg (by simp only [List.length_cons]; omega)]
theorem pw3 (a b c : Int) (r : List Int) : pw (a :: b :: c :: r) = gws [a, b, c] ++ pw r := by
  unfold pw
  rw [show ((a :: b :: c :: r).length + 2) / 3 = (r.length + 2) / 3 + 1 from Nat.add_div_right (r.length + 2) (Nat.succ_pos 2), List.range_succ_eq_map, List.flatMap_cons, List.flatMap_map]
  congr 1
theorem fdiv_pow (a : Int) (n : Nat) : a.fdiv (2 ^ n) = a / 2 ^ n := Int.fdiv_eq_ediv_of_nonneg _ (Int.le_of_lt (Int.pow_pos (by decide)))
theorem s64 (T : Int) {k : Int} (hk : 0 ≤ k) : 64 * (T / (k * 64)) + T / k % 64 = T / k := by
  rw [← Int.ediv_ediv_of_nonneg hk]; exact Int.mul_ediv_add_emod _ _
theorem d256 {x y : Int} (h : 0 ≤ y ∧ y < 256) : (256 * x + y) / 256 = x := by
  rw [Int.add_comm, Int.add_mul_ediv_left _ _ (by decide), Int.ediv_eq_zero_of_lt h.1 h.2, Int.zero_add]
theorem m256 {x y : Int} (h : 0 ≤ y ∧ y < 256) : (256 * x + y) % 256 = y := by
  rw [Int.add_comm, Int.add_mul_emod_self_left, Int.emod_eq_of_lt h.1 h.2]
theorem b256 {x y B : Int} (h : 0 ≤ y ∧ y < 256) (hx : 0 ≤ x ∧ x < B) : 0 ≤ 256 * x + y ∧ 256 * x + y < 256 * B :=
  ⟨Int.add_nonneg (Int.mul_nonneg (by decide) hx.1) h.1, Int.lt_of_lt_of_le (Int.add_lt_add_left h.2 _) (by have := Int.mul_le_mul_of_nonneg_left (Int.add_one_le_of_lt hx.2) (show (0 : Int) ≤ 256 by decide); rwa [Int.mul_add, Int.mul_one] at this)⟩
theorem hi64 {T k : Int} (h : 0 ≤ T) (hk : 0 < k) (h2 : T < 64 * k) : T / k % 64 = T / k := Int.emod_eq_of_lt (Int.ediv_nonneg h (Int.le_of_lt hk)) (Int.ediv_lt_of_lt_mul hk h2)
theorem fdv (T : Int) {k : Int} (hk : 0 ≤ k) : T.fdiv k = T / k := Int.fdiv_eq_ediv_of_nonneg _ hk
def g4o (x y z u : Int) : Int := 64 * (64 * (64 * (64 * 0 + x) + y) + z) + u
def g3o (x y z : Int) : Int := 64 * (64 * (64 * 0 + x) + y) + z
def g2o (x y : Int) : Int := 64 * (64 * 0 + x) + y
theorem gos4 (x y z u : Int) : gos [x, y, z, u] = [((g4o x y z u).fdiv 1).fdiv 65536 % 256, ((g4o x y z u).fdiv 1).fdiv 256 % 256, ((g4o x y z u).fdiv 1).fdiv 1 % 256] := by kernel_rfl
theorem gos3 (x y z : Int) : gos [x, y, z] = [((g3o x y z).fdiv 4).fdiv 256 % 256, ((g3o x y z).fdiv 4).fdiv 1 % 256] := by kernel_rfl
theorem gos2 (x y : Int) : gos [x, y] = [((g2o x y).fdiv 16).fdiv 1 % 256] := by kernel_rfl
theorem gws3 (a b c : Int) : gws [a, b, c] = [((256 * (256 * (256 * 0 + a) + b) + c) * 1).fdiv 262144 % 64, ((256 * (256 * (256 * 0 + a) + b) + c) * 1).fdiv 4096 % 64, ((256 * (256 * (256 * 0 + a) + b) + c) * 1).fdiv 64 % 64, ((256 * (256 * (256 * 0 + a) + b) + c) * 1).fdiv 1 % 64] := by kernel_rfl
theorem gws2 (a b : Int) : gws [a, b] = [((256 * (256 * 0 + a) + b) * 4).fdiv 4096 % 64, ((256 * (256 * 0 + a) + b) * 4).fdiv 64 % 64, ((256 * (256 * 0 + a) + b) * 4).fdiv 1 % 64] := by kernel_rfl
theorem gws1 (a : Int) : gws [a] = [((256 * 0 + a) * 16).fdiv 64 % 64, ((256 * 0 + a) * 16).fdiv 1 % 64] := by kernel_rfl
theorem g3 {a b c : Int} (ha : 0 ≤ a ∧ a < 256) (hb : 0 ≤ b ∧ b < 256) (hc : 0 ≤ c ∧ c < 256) : ∃ x y z u, gws [a, b, c] = [x, y, z, u] ∧ gos [x, y, z, u] = [a, b, c] := by
  have hT := b256 hc (b256 hb ha)
  have e4 : (256 * (256 * a + b) + c) / 65536 = a := by
    rw [show (65536 : Int) = 256 * 256 from rfl, ← Int.ediv_ediv_of_nonneg (by decide), d256 hc, d256 hb]
  have e5 : (256 * (256 * a + b) + c) / 256 % 256 = b := by rw [d256 hc, m256 hb]
  have e6 := m256 (x := 256 * a + b) hc
  refine ⟨_, _, _, _, gws3 a b c, ?_⟩
  rw [gos4, Int.mul_zero, Int.zero_add, Int.mul_one]
  generalize 256 * (256 * a + b) + c = T at *
  have e : g4o (T.fdiv 262144 % 64) (T.fdiv 4096 % 64) (T.fdiv 64 % 64) (T.fdiv 1 % 64) = T := by
    unfold g4o
    rw [Int.mul_zero, Int.zero_add, fdv _ (by decide), fdv _ (by decide), fdv _ (by decide), fdv _ (by decide), hi64 hT.1 (by decide) hT.2, show (262144 : Int) = 4096 * 64 from rfl, s64 _ (by decide), show (4096 : Int) = 64 * 64 from rfl, s64 _ (by decide), Int.ediv_one, Int.mul_ediv_add_emod]
  rw [e, fdv _ (by decide), fdv _ (by decide), fdv _ (by decide), fdv _ (by decide), Int.ediv_one, Int.ediv_one, e4, e5, e6, Int.emod_eq_of_lt ha.1 ha.2]
theorem g2 {a b : Int} (ha : 0 ≤ a ∧ a < 256) (hb : 0 ≤ b ∧ b < 256) : ∃ x y z, gws [a, b] = [x, y, z] ∧ gos [x, y, z] = [a, b] := by
  have hT := b256 hb ha
  have e4 : (256 * a + b) / 256 = a := d256 hb
  have e6 := m256 (x := a) hb
  refine ⟨_, _, _, gws2 a b, ?_⟩
  rw [gos3, Int.mul_zero, Int.zero_add]
  generalize 256 * a + b = T at *
  have h4 : 0 ≤ T * 4 := Int.mul_nonneg hT.1 (by decide)
  have h5 : T * 4 < 64 * 4096 := Int.mul_lt_mul_of_pos_right hT.2 (by decide)
  have e : g3o ((T * 4).fdiv 4096 % 64) ((T * 4).fdiv 64 % 64) ((T * 4).fdiv 1 % 64) = T * 4 := by
    unfold g3o
    rw [Int.mul_zero, Int.zero_add, fdv _ (by decide), fdv _ (by decide), fdv _ (by decide), hi64 h4 (by decide) h5, show (4096 : Int) = 64 * 64 from rfl, s64 _ (by decide), Int.ediv_one, Int.mul_ediv_add_emod]
  rw [e, fdv _ (by decide), fdv _ (by decide), fdv _ (by decide), Int.mul_ediv_cancel _ (by decide), Int.ediv_one, e4, e6, Int.emod_eq_of_lt ha.1 ha.2]
theorem g1 {a : Int} (ha : 0 ≤ a ∧ a < 256) : ∃ x y, gws [a] = [x, y] ∧ gos [x, y] = [a] := by
  refine ⟨_, _, gws1 a, ?_⟩
  rw [gos2, Int.mul_zero, Int.zero_add]
  have h4 : 0 ≤ a * 16 := Int.mul_nonneg ha.1 (by decide)
  have h5 : a * 16 < 64 * 64 := Int.mul_lt_mul_of_pos_right ha.2 (by decide)
  have e : g2o ((a * 16).fdiv 64 % 64) ((a * 16).fdiv 1 % 64) = a * 16 := by
    unfold g2o
    rw [Int.mul_zero, Int.zero_add, fdv _ (by decide), fdv _ (by decide), hi64 h4 (by decide) h5, Int.ediv_one, Int.mul_ediv_add_emod]
  rw [e, fdv _ (by decide), fdv _ (by decide), Int.mul_ediv_cancel _ (by decide), Int.ediv_one, Int.emod_eq_of_lt ha.1 ha.2]
theorem dg_pw : ∀ (ks : List Int), KBa.In ks → dg (pw ks) = ks
  | [], _ => rfl
  | [a], h => by
    obtain ⟨x, y, e1, e2⟩ := g1 (h a (by simp))
    have : pw [a] = gws [a] := by simp [pw]
    rw [this, e1]
    have e3 : dg [x, y] = gos [x, y] := by simp [dg, List.range_succ]
    rw [e3, e2]
  | [a, b], h => by
    obtain ⟨x, y, z, e1, e2⟩ := g2 (h a (by simp)) (h b (by simp))
    have : pw [a, b] = gws [a, b] := by simp [pw]
    rw [this, e1]
    have e3 : dg [x, y, z] = gos [x, y, z] := by simp [dg, List.range_succ]
    rw [e3, e2]
  | a :: b :: c :: r, h => by
    obtain ⟨x, y, z, u, e1, e2⟩ := g3 (h a (by simp)) (h b (by simp)) (h c (by simp))
    rw [pw3, e1]
    show dg (x :: y :: z :: u :: pw r) = _
    rw [dg4, e2, dg_pw r fun n hn => h n (by simp [hn])]; rfl
theorem b_back (ks : List Int) (h : KBa.In ks) : dec64 (b64 ks) = ks := by
  have : dec64 (b64 ks) = dg (wor (b64 ks)) := rfl
  rw [this, wor_b64, dg_pw ks h]
theorem pe3 (a b c : Int) (r : List Int) : pe (a :: b :: c :: r) = gcs [a, b, c] ++ pe r := by
  unfold pe
  rw [show ((a :: b :: c :: r).length + 2) / 3 = (r.length + 2) / 3 + 1 from Nat.add_div_right (r.length + 2) (Nat.succ_pos 2), List.range_succ_eq_map, List.flatMap_cons, List.flatMap_map]
  congr 1
theorem pe_len : ∀ ks : List Int, (pe ks).length = 4 * (ks.length / 3) + (if ks.length % 3 = 0 then 0 else ks.length % 3 + 1)
  | [] => rfl
  | [a] => by
    have : pe [a] = gcs [a] := by simp [pe]
    rw [this, gcs_length]; simp
  | [a, b] => by
    have : pe [a, b] = gcs [a, b] := by simp [pe]
    rw [this, gcs_length]; simp
  | a :: b :: c :: r => by
    rw [pe3, List.length_append, gcs_length, pe_len r]
    simp only [List.length_cons, List.length_nil]
    rw [show (r.length + 1 + 1 + 1) / 3 = r.length / 3 + 1 from Nat.add_div_right r.length (Nat.succ_pos 2), show (r.length + 1 + 1 + 1) % 3 = r.length % 3 from Nat.add_mod_right r.length 3]
    omega
theorem b64_len (ks : List Int) : (b64 ks).length = 4 * ((ks.length + 2) / 3) := by
  unfold b64
  rw [List.length_append, List.length_replicate, pe_len, Int.fmod_eq_emod_of_nonneg _ (by decide)]
  split <;> omega

/-- how many chunks greedy cutting takes -/
def cnt (room : Int) : List Int → Int → Nat
  | [], _ => 1
  | z :: r, u => if u + z > room then 1 + cnt room r z else cnt room r (u + z)
theorem cnt_cons (room z u : Int) (r : List Int) : cnt room (z :: r) u = if u + z > room then 1 + cnt room r z else cnt room r (u + z) := rfl
def Fit (room : Int) (zs : List Int) : Prop := ∀ z ∈ zs, 0 ≤ z ∧ z ≤ room
theorem Fit.tail {room z : Int} {r : List Int} (h : Fit room (z :: r)) : Fit room r := fun x hx => h x (.tail _ hx)
theorem cnt_MN (room : Int) : ∀ r : List Int, Fit room r → (∀ u u' : Int, u ≤ u' → u' ≤ room → cnt room r u ≤ cnt room r u') ∧ (∀ v w : Int, v ≤ room → 0 ≤ w → cnt room r v ≤ 1 + cnt room r w)
  | [], _ => ⟨fun _ _ _ _ => Nat.le_refl _, fun _ _ _ _ => by simp [cnt]⟩
  | z :: r, h => by
    obtain ⟨M, N⟩ := cnt_MN room r h.tail
    obtain ⟨z0, z1⟩ := h z (.head _)
    constructor
    · intro u u' h1 h2
      rw [cnt_cons, cnt_cons]
      split
      · rw [if_pos (by omega)]; exact Nat.le_refl _
      · split
        · exact N _ _ (by omega) z0
        · exact M _ _ (by omega) (by omega)
    · intro v w h1 h2
      rw [cnt_cons, cnt_cons]
      split
      · split
        · omega
        · have := M z (w + z) (by omega) (by omega); omega
      · split
        · have := N (v + z) z (by omega) z0; omega
        · exact N _ _ (by omega) (by omega)
theorem cnt_wide {room room' : Int} (hr : room ≤ room') : ∀ r : List Int, Fit room r → ∀ u' u : Int, u' ≤ u → u ≤ room → cnt room' r u' ≤ cnt room r u
  | [], _, _, _, _, _ => Nat.le_refl _
  | z :: r, h, u', u, h1, h2 => by
    have ih := cnt_wide hr r h.tail
    obtain ⟨z0, z1⟩ := h z (.head _)
    have h' : Fit room' r := fun x hx => by have := h.tail x hx; omega
    rw [cnt_cons, cnt_cons]
    split
    · rw [if_pos (by omega)]
      have := ih z z (Int.le_refl _) z1; omega
    · split
      · have := (cnt_MN room' r h').2 (u' + z) z (by omega) z0
        have := ih z z (Int.le_refl _) z1
        omega
      · exact ih _ _ (by omega) (by omega)
/-- greedy from a fresh start -/
def gK (room : Int) (zs : List Int) : Nat := match zs with | [] => 0 | z :: r => cnt room (z :: r) 0
theorem sum_nn : ∀ l : List Int, (∀ x ∈ l, 0 ≤ x) → 0 ≤ l.sum
  | [], _ => Int.le_refl 0
  | a :: l, h => by rw [List.sum_cons]; exact Int.add_nonneg (h a (.head _)) (sum_nn l fun x hx => h x (.tail _ hx))
theorem cnt_app (room : Int) : ∀ (p q : List Int) (u : Int), Fit room p → u + p.sum ≤ room → cnt room (p ++ q) u = cnt room q (u + p.sum)
  | [], q, u, _, _ => by simp
  | z :: p, q, u, h, hs => by
    have hp : 0 ≤ p.sum := sum_nn p fun x hx => (h.tail x hx).1
    rw [List.sum_cons] at hs
    rw [List.cons_append, cnt_cons, if_neg (by omega), cnt_app room p q (u + z) h.tail (by omega), List.sum_cons, Int.add_assoc]
theorem gK_le (room : Int) (p q : List Int) (hne : p ≠ []) (h : Fit room (p ++ q)) (hs : p.sum ≤ room) (hr : 0 ≤ room) : gK room (p ++ q) ≤ 1 + gK room q := by
  have hp : Fit room p := fun x hx => h x (List.mem_append_left _ hx)
  have hq : Fit room q := fun x hx => h x (List.mem_append_right _ hx)
  have e : gK room (p ++ q) = cnt room (p ++ q) 0 := by
    cases p with
    | nil => exact absurd rfl hne
    | cons a p => rfl
  rw [e, cnt_app room p q 0 hp (by omega), Int.zero_add]
  cases q with
  | nil => exact Nat.le_refl _
  | cons z r => exact (cnt_MN room _ hq).2 _ 0 hs (Int.le_refl _)
theorem cnt_split (room : Int) : ∀ (r : List Int) (u : Int), Fit room r → u ≤ room → ∃ p q, r = p ++ q ∧ u + p.sum ≤ room ∧ cnt room r u = 1 + gK room q
  | [], u, _, hu => ⟨[], [], rfl, by simpa using hu, rfl⟩
  | z :: r, u, h, hu => by
    rw [cnt_cons]
    split
    · refine ⟨[], z :: r, rfl, by simpa using hu, ?_⟩
      have := h z (.head _)
      show _ = 1 + cnt room (z :: r) 0
      rw [cnt_cons, if_neg (by omega), Int.zero_add]
    · obtain ⟨p, q, e, hs, hc⟩ := cnt_split room r (u + z) h.tail (by omega)
      exact ⟨z :: p, q, by rw [e]; rfl, by rw [List.sum_cons]; omega, hc⟩
theorem gK_split (room : Int) (z : Int) (r : List Int) (h : Fit room (z :: r)) : ∃ p q, z :: r = p ++ q ∧ p ≠ [] ∧ p.sum ≤ room ∧ gK room (z :: r) = 1 + gK room q := by
  obtain ⟨z0, z1⟩ := h z (.head _)
  obtain ⟨p, q, e, hs, hc⟩ := cnt_split room r z h.tail z1
  refine ⟨z :: p, q, by rw [e]; rfl, List.cons_ne_nil _ _, by rw [List.sum_cons]; omega, ?_⟩
  show cnt room (z :: r) 0 = _
  rw [cnt_cons, if_neg (by omega), Int.zero_add]; exact hc
theorem gK_wide {room room' : Int} (hr : room ≤ room') (h0 : 0 ≤ room) (zs : List Int) (h : Fit room zs) : gK room' zs ≤ gK room zs := by
  cases zs with
  | nil => exact Nat.le_refl _
  | cons z r => exact cnt_wide hr _ h 0 0 (Int.le_refl _) h0
/-- what the law reckons, from the end on -/
def Best (room : Int) (zs : List Int) (B : Nat → Option Nat) : Prop :=
  B zs.length = some 0 ∧ ∀ at_, at_ < zs.length →
    (B at_ = none ∧ ∀ e, at_ < e → e ≤ zs.length → B e ≠ none → ¬ ((zs.drop at_).take (e - at_)).sum ≤ room) ∨
    (∃ e b, at_ < e ∧ e ≤ zs.length ∧ B e = some b ∧ ((zs.drop at_).take (e - at_)).sum ≤ room ∧ B at_ = some (1 + b) ∧ ∀ e' b', at_ < e' → e' ≤ zs.length → B e' = some b' → ((zs.drop at_).take (e' - at_)).sum ≤ room → b ≤ b')
theorem best_is {room : Int} {zs : List Int} {B : Nat → Option Nat} (hB : Best room zs B) (hf : Fit room zs) (h0 : 0 ≤ room) : ∀ (j at_ : Nat), at_ + j = zs.length → B at_ = some (gK room (zs.drop at_)) := by
  intro j
  induction j using Nat.strongRecOn with
  | _ j ih =>
    intro at_ ha
    cases j with
    | zero =>
      obtain rfl : at_ = zs.length := ha
      rw [List.drop_length]; exact hB.1
    | succ j =>
      have hlt : at_ < zs.length := ha ▸ Nat.lt_add_of_pos_right (Nat.succ_pos j)
      have IH : ∀ e, at_ < e → e ≤ zs.length → B e = some (gK room (zs.drop e)) := fun e h1 h2 => ih (zs.length - e) (Nat.lt_of_lt_of_le (Nat.sub_lt_sub_left hlt h1) (Nat.le_of_eq (by rw [← ha, Nat.add_sub_cancel_left]))) e (Nat.add_sub_of_le h2)
      have hfd : Fit room (zs.drop at_) := fun x hx => hf x (List.mem_of_mem_drop hx)
      have cutE : ∀ e, at_ < e → zs.drop at_ = (zs.drop at_).take (e - at_) ++ zs.drop e := fun e h1 => by
        have := (List.take_append_drop (e - at_) (zs.drop at_)).symm
        rwa [List.drop_drop, show at_ + (e - at_) = e from Nat.add_sub_of_le (Nat.le_of_lt h1)] at this
      have low : ∀ e, at_ < e → e ≤ zs.length → ((zs.drop at_).take (e - at_)).sum ≤ room → gK room (zs.drop at_) ≤ 1 + gK room (zs.drop e) := fun e h1 h2 hs => by
        have hc := cutE e h1
        rw [hc] at hfd
        have := gK_le room _ _ (by intro z; have := congrArg List.length z; rw [List.length_take, List.length_drop, List.length_nil] at this; exact absurd this (Nat.ne_of_gt (Nat.lt_min.mpr ⟨Nat.sub_pos_of_lt h1, Nat.sub_pos_of_lt hlt⟩))) hfd hs h0
        rwa [← hc] at this
      have dc : zs.drop at_ = zs[at_] :: zs.drop (at_ + 1) := List.drop_eq_getElem_cons hlt
      obtain ⟨p, q, e1, hne, hs, hg⟩ := gK_split room _ _ (dc ▸ hfd)
      rw [← dc] at e1 hg
      have hpl : 0 < p.length := List.length_pos_iff.mpr hne
      have hl := congrArg List.length e1
      rw [List.length_drop, List.length_append] at hl
      have e2 : (zs.drop at_).take (at_ + p.length - at_) = p := by rw [e1, Nat.add_sub_cancel_left, List.take_left]
      have e3 : zs.drop (at_ + p.length) = q := by rw [← List.drop_drop, e1, List.drop_left]
      have hpp : at_ < at_ + p.length := Nat.lt_add_of_pos_right hpl
      have hpe : at_ + p.length ≤ zs.length := Nat.add_le_of_le_sub' (Nat.le_of_lt hlt) (hl ▸ Nat.le_add_right _ _)
      have best : B (at_ + p.length) = some (gK room q) := by rw [IH _ hpp hpe, e3]
      rcases hB.2 at_ hlt with ⟨hn, hno⟩ | ⟨e, b, h1, h2, hb, hsum, hat, hmin⟩
      · exact absurd (by rw [e2]; exact hs) (hno (at_ + p.length) hpp hpe (by rw [best]; simp))
      · have hb' := IH e h1 h2
        rw [hb] at hb'
        have l1 := low e h1 h2 hsum
        have l2 := hmin (at_ + p.length) (gK room q) hpp hpe best (by rw [e2]; exact hs)
        rw [hat, hg]
        have := Option.some.inj hb'
        exact congrArg some (congrArg (1 + ·) (Nat.le_antisymm l2 (this ▸ Nat.le_of_add_le_add_left (hg ▸ l1))))
theorem best_none {room : Int} {zs : List Int} {B : Nat → Option Nat} (hB : Best room zs B) {i : Nat} {z : Int} (hz : ∀ z ∈ zs, 0 ≤ z) (hi : zs[i]? = some z) (h : room < z) : B i = none := by
  have hlt : i < zs.length := by
    rcases Nat.lt_or_ge i zs.length with h' | h'
    · exact h'
    · rw [List.getElem?_eq_none h'] at hi; cases hi
  rcases hB.2 i hlt with ⟨hn, _⟩ | ⟨e, b, h1, h2, hb, hsum, hat, hmin⟩
  · exact hn
  · exfalso
    rw [drop_cons hi, show e - i = (e - i - 1) + 1 from (Nat.sub_add_cancel (Nat.sub_pos_of_lt h1)).symm, List.take_succ_cons, List.sum_cons] at hsum
    have : 0 ≤ ((zs.drop (i + 1)).take (e - i - 1)).sum := by
      have pos := sum_nn
      exact pos _ fun x hx => hz x (List.mem_of_mem_drop (List.mem_of_mem_take hx))
    omega

def smf (f : Int → Int) (l : List Int) : Int := (l.map f).sum
theorem smf_snoc (f : Int → Int) (l : List Int) (c : Int) : smf f (l ++ [c]) = smf f l + f c := by simp [smf]
theorem smf_one (f : Int → Int) (c : Int) : smf f [c] = f c := by simp [smf]
/-- the chunks -/
def gr (room : Int) (f : Int → Int) : List Int → List Int → List (List Int)
  | [], cur => [cur]
  | c :: r, cur => if smf f cur + f c > room then cur :: gr room f r [c] else gr room f r (cur ++ [c])
def segs (t : List Int) : Int → List Int → List (List Int)
  | _, [] => []
  | b, e :: es => (t.drop b.toNat).take (e - b).toNat :: segs t e es
theorem segs_ce (room : Int) (f : Int → Int) : ∀ (r pre cur : List Int), segs (pre ++ (cur ++ r)) pre.length (ce room (r.map f) (pre.length + cur.length) (smf f cur)) = gr room f r cur
  | [], pre, cur => by
    show [_] = [cur]
    rw [Int.toNat_natCast, List.drop_left, List.append_nil, show ((pre.length : Int) + cur.length - pre.length).toNat = cur.length by omega, List.take_length]
  | c :: r, pre, cur => by
    rw [List.map_cons, ce_cons, gr]
    split
    · show _ :: _ = _
      rw [Int.toNat_natCast, List.drop_left, show ((pre.length : Int) + cur.length - pre.length).toNat = cur.length by omega, List.take_left]
      have ih := segs_ce room f r (pre ++ cur) [c]
      rw [smf_one, List.length_append, List.length_singleton] at ih
      rw [← ih, List.append_assoc]
      push_cast
      rfl
    · have ih := segs_ce room f r pre (cur ++ [c])
      rw [smf_snoc, List.length_append, List.length_singleton] at ih
      rw [← ih, List.append_assoc]
      push_cast
      rw [Int.add_assoc]; rfl
theorem gr_sum {room : Int} {f : Int → Int} : ∀ (r cur : List Int), (∀ c ∈ r, f c ≤ room) → smf f cur ≤ room → ∀ p ∈ gr room f r cur, smf f p ≤ room
  | [], cur, _, h, p, hp => by rw [List.mem_singleton.mp hp]; exact h
  | c :: r, cur, hr, h, p, hp => by
    rw [gr] at hp
    split at hp
    · rcases List.mem_cons.mp hp with rfl | hp
      · exact h
      · exact gr_sum r [c] (fun x hx => hr x (.tail _ hx)) (by rw [smf_one]; exact hr c (.head _)) p hp
    · exact gr_sum r (cur ++ [c]) (fun x hx => hr x (.tail _ hx)) (by rw [smf_snoc]; omega) p hp
theorem gr_flat (room : Int) (f : Int → Int) : ∀ r cur : List Int, (gr room f r cur).flatten = cur ++ r
  | [], cur => by simp [gr]
  | c :: r, cur => by
    rw [gr]
    split
    · rw [List.flatten_cons, gr_flat]; simp
    · rw [gr_flat]; simp
theorem gr_cnt (room : Int) (f : Int → Int) : ∀ r cur : List Int, (gr room f r cur).length = cnt room (r.map f) (smf f cur)
  | [], cur => rfl
  | c :: r, cur => by
    rw [gr, List.map_cons, cnt_cons]
    split
    · rw [List.length_cons, gr_cnt room f r [c], smf_one]; omega
    · rw [gr_cnt room f r (cur ++ [c]), smf_snoc]
theorem ce_len (room : Int) (f : Int → Int) : ∀ (r : List Int) (a u : Int), (ce room (r.map f) a u).length = cnt room (r.map f) u
  | [], _, _ => rfl
  | c :: r, a, u => by
    rw [List.map_cons, ce_cons, cnt_cons]
    split
    · rw [List.length_cons, ce_len]; omega
    · exact ce_len room f r _ _
theorem ce_bounds (room : Int) : ∀ (zs : List Int) (a u : Int), ∀ e ∈ ce room zs a u, a ≤ e ∧ e ≤ a + zs.length
  | [], a, u, e, he => by rw [List.mem_singleton.mp he]; simp
  | z :: r, a, u, e, he => by
    rw [ce_cons] at he
    rw [List.length_cons]; push_cast
    split at he
    · rcases List.mem_cons.mp he with rfl | he
      · omega
      · have := ce_bounds room r _ _ e he; omega
    · have := ce_bounds room r _ _ e he; omega
/-- a word -/
def wd (chs way : Str) (p : List Int) : List Int := fr chs way (pay way (p.flatMap (en chs)))
def rm (chs way : Str) (width : Int) : Int := if way = wB then (width - (6 + chs.length + way.length)) / 4 * 3 else width - (6 + chs.length + way.length)
theorem flatMap_len {f : Int → List Int} : ∀ l : List Int, ((l.flatMap f).length : Int) = smf (fun c => ((f c).length : Int)) l
  | [] => rfl
  | c :: l => by
    rw [List.flatMap_cons, List.length_append]; push_cast
    rw [flatMap_len l]; simp [smf]
theorem b64_room {t W : Int} : 4 * ((t + 2) / 3) ≤ W ↔ t ≤ W / 4 * 3 := by
  rw [Int.mul_comm 4, ← Int.le_ediv_iff_mul_le (by decide), ← Int.lt_add_one_iff, Int.ediv_lt_iff_lt_mul (by decide), Int.add_mul]
  rw [show W / 4 * 3 + 1 * 3 = W / 4 * 3 + 1 + 2 by rw [Int.add_assoc]; rfl, Int.add_lt_add_iff_right, Int.lt_add_one_iff]
theorem rm_base {chs way : Str} {width : Int} (hcl : chs.length ≤ 10) (hwl : way.length = 1) (h0 : 18 ≤ width) : 0 ≤ width - (6 + (chs.length : Int) + way.length) := by
  rw [hwl]
  exact Int.sub_nonneg_of_le (Int.le_trans (Int.add_le_add_right (Int.add_le_add_left (Int.ofNat_le.mpr hcl) 6) 1) (Int.le_trans (by decide) h0))
theorem rm_ge {chs way : Str} {width : Int} (hcl : chs.length ≤ 10) (hwl : way.length = 1) (h0 : 18 ≤ width) : 0 ≤ rm chs way width := by
  have h := rm_base hcl hwl h0
  unfold rm; split
  · exact Int.mul_nonneg (Int.ediv_nonneg h (by decide)) (by decide)
  · exact h
theorem rm_le {chs way : Str} {width : Int} (h1 : width ≤ 75) : rm chs way width ≤ 75 := by
  have h : width - (6 + (chs.length : Int) + way.length) ≤ 75 := Int.le_trans (Int.sub_le_self _ (Int.add_nonneg (Int.add_nonneg (by decide) (Int.natCast_nonneg _)) (Int.natCast_nonneg _))) h1
  unfold rm; split
  · exact Int.le_trans (Int.mul_le_mul_of_nonneg_right (Int.ediv_le_ediv (by decide) h) (by decide)) (by decide)
  · exact h
theorem wd_len {chs way : Str} (hw : way = wQ ∨ way = wB) {width : Int} {p : List Int} (h : smf (sz chs way) p ≤ rm chs way width) : ((wd chs way p).length : Int) ≤ width := by
  unfold wd
  rw [fr_len]
  have hwl := (way_len hw).1
  rcases hw with rfl | rfl
  · have e : ((pay wQ (p.flatMap (en chs))).length : Int) = smf (sz chs wQ) p := by
      unfold pay; rw [if_pos rfl, List.flatMap_assoc, flatMap_len]; rfl
    unfold rm at h
    rw [if_neg (by decide)] at h
    exact Int.add_le_of_le_sub_left (e.symm ▸ h)
  · have e : ((p.flatMap (en chs)).length : Int) = smf (sz chs wB) p := by
      rw [flatMap_len]
      unfold sz; simp only [if_neg (show ¬ wB = Str.ofString "Q" by decide)]
    have e2 : (pay wB (p.flatMap (en chs))).length = 4 * (((p.flatMap (en chs)).length + 2) / 3) := by
      unfold pay; rw [if_neg (by decide), b64_len]
    unfold rm at h
    rw [if_pos rfl] at h
    rw [e2]
    exact Int.add_le_of_le_sub_left (b64_room.mpr (e.symm ▸ h))
theorem sz_pos (chs way : Str) (c : Int) : 1 ≤ sz chs way c ∧ sz chs way c ≤ 12 := by
  have := en_len chs c
  unfold sz
  split
  · have h1 := flatMap_le qenc 3 (en chs c) (fun a _ => by unfold qenc; split <;> (try split) <;> simp)
    have h2 : (en chs c).length ≤ ((en chs c).flatMap qenc).length := by
      generalize en chs c = l
      induction l with
      | nil => simp
      | cons a l ih =>
        have : 1 ≤ (qenc a).length := by unfold qenc; split <;> (try split) <;> simp
        rw [List.flatMap_cons, List.length_append, List.length_cons]; omega
    omega
  · omega

theorem layP161 : True := by
  k_with "my call ref" => ((k_here; (with_reducible show wpAny _ _ (PySem.call (Value.ref 276) _) _ _ _); k_dflt (refine' called (sign_sizes_at _ _ _ _ _ _ _ _ (by with_reducible assumption) (by first | with_reducible assumption | exact Or.inl rfl | exact Or.inr rfl) (by omega) (by with_reducible assumption)) ?kBZ9 ?kFZ9 ?kXZ9 ?kNZ9 ?kTZ9 ?kKZ9 ?kDZ9 ?kUZ9 ?_; (case kBZ9 | kFZ9 | kXZ9 | kNZ9 | kTZ9 => k_asm); (case kKZ9 => first | exact rfl | assumption); (case kDZ9 => ktr_room); (case kUZ9 => ktr_units)); intro l'q vs'q n'q h'q tk'q hI'q F'q N'q o1'q; (try simp only [LCg.Off1, and_true] at o1'q)))
  k_with "my subscriptTail" => ((k_here; (with_reducible show wpAny _ _ (subscriptTail _ (Expr.Slice (some _) (some _) none _) (Value.str _ _) (Value.ref _)) _ _ _); (with_reducible rename Fr _ _ _ _ => F'q); (with_reducible rename News _ _ _ _ => N'q); (refine slice_strN_ss (hsz := ?hszZ9) (s := ⟨_, _, _, _, _⟩) F'q N'q ?_); (case hszZ9 => (rw [sizeLine_eq]; omega)); intro _ _ _ _ _))
  k_with "my call ref" => ((k_here; (with_reducible show wpAny _ _ (PySem.call (Value.ref 264) _) _ _ _); k_dflt (refine' called (framed_word_at _ _ #[] [] _ _ _ _ _ (by with_reducible assumption) (by with_reducible assumption) (by omega) (by omega) rfl (by decide)) ?kBZ9 ?kFZ9 ?kXZ9 ?kNZ9 ?kTZ9 ?kKZ9 ?kDZ9 ?kUZ9 ?_; (case kBZ9 | kFZ9 | kXZ9 | kNZ9 | kTZ9 => k_asm); (case kKZ9 => first | exact rfl | assumption); (case kDZ9 => ktr_room); (case kUZ9 => ktr_units)); intro b'q t'q h'q tk'q kbEq9 F'q N'q))
  k_with "my call ref" => ((k_here; (with_reducible show wpAny _ _ (PySem.call (Value.ref 271) _) _ _ _); k_dflt (refine' called (encoded_word_at _ _ _ _ _ _ _ _ (by with_reducible assumption) (by first | with_reducible assumption | exact Or.inl rfl | exact Or.inr rfl) (by omega) (by with_reducible assumption) (by with_reducible assumption)) ?kBZ9 ?kFZ9 ?kXZ9 ?kNZ9 ?kTZ9 ?kKZ9 ?kDZ9 ?kUZ9 ?_; (case kBZ9 | kFZ9 | kXZ9 | kNZ9 | kTZ9 => k_asm); (case kKZ9 => first | exact rfl | assumption); (case kDZ9 => ktr_room); (case kUZ9 => ktr_units)); intro b'q t'q h'q tk'q kbEq9 F'q N'q))
  exact True.intro
section
variable {prog : Program} {w : World} {A : Around} {E : Value → Shared → Prop} {s : Shared} {env : Env} {h₀ : Heap} {x : Str} {body : List Stmt} {Q : Flow → Shared → Prop} {σ : Type} {m₀ : Str → Option Value}
theorem lp_ints3 {l D : Addr} {vs : List Value} {ns : List Int} {nn : Nat} {b : Addr × Obj} {nw : List (Addr × Obj)} (O : σ → Obj) (ps : σ → List (Str × Value)) (stored : List Str) (J : Nat → σ → Prop) (c₀ : σ)
    (hi : IntsAre vs ns) (hh : A.handled = none) (F : Fr h₀ env.locals s.heap m₀) (N : News h₀ env.locals s.heap ((l, listOf vs.toArray nn) :: b :: (D, O c₀) :: nw)) (hk : ∀ p ∈ ps c₀, m₀ p.1 = some p.2) (hj : J 0 c₀)
    (turn : Hold (∀ (i : Nat) (k : Int) (t : Tok) (c : σ) (u : Str → Option Value) h tk own, ns[i]? = some k → OwnOff own (l :: b.1 :: D :: nw.map (·.1)) → J i c →
      Fr h₀ env.locals h (fun y => if y = x then some (.int k t) else kstB (fun z => if stored.contains z then u z else m₀ z) (ps c) y) → News h₀ env.locals h ((l, listOf vs.toArray nn) :: b :: (D, O c) :: (nw ++ own)) →
      wpAny (model prog w) A (execs body env) (InvPostN h₀ env.locals (LpS (fun c => (l, listOf vs.toArray nn) :: b :: (D, O c) :: nw) ps x stored m₀ (J (i + 1))) own (l :: b.1 :: D :: nw.map (·.1)) { s with heap := h, toks := tk } Q) E { s with heap := h, toks := tk }))
    (done : Hold (∀ (c : σ) (u : Str → Option Value) h tk, J ns.length c → Fr h₀ env.locals h (fun y => if y = x then u y else kstB (fun z => if stored.contains z then u z else m₀ z) (ps c) y) → News h₀ env.locals h ((l, listOf vs.toArray nn) :: b :: (D, O c) :: nw) → Q .next { s with heap := h, toks := tk })) :
    wpAny (model prog w) A (pyIter (.ref l)) (fun it s₂ => LoopAtV prog w A h₀ env x body Q E it s₂) E s :=
  lp_ints (fun c => (l, listOf vs.toArray nn) :: b :: (D, O c) :: nw) ps stored J c₀ (fun _ => List.mem_cons_self) hi hh F N hk hj turn done
end
theorem ce_step (room : Int) : ∀ (zs : List Int) (a u b : Int), b ≤ a → ∀ (i : Nat) (e : Int), (ce room zs a u)[i]? = some e → (b :: ce room zs a u).getD i 0 ≤ e
  | [], a, u, b, h, i, e, he => by
    cases i with
    | zero => have : a = e := Option.some.inj he; rw [← this]; exact h
    | succ i => simp [ce] at he
  | z :: r, a, u, b, h, i, e, he => by
    rw [ce_cons] at he ⊢
    split at he
    · rename_i c
      rw [if_pos c]
      cases i with
      | zero => have : a = e := Option.some.inj he; rw [← this]; exact h
      | succ i => exact ce_step room r (a + 1) z a (by omega) i e he
    · rename_i c
      rw [if_neg c]
      exact ce_step room r (a + 1) (u + z) b (by omega) i e he
theorem segs_get (t : List Int) : ∀ (es : List Int) (b : Int) (i : Nat) (e : Int), es[i]? = some e → (segs t b es)[i]? = some ((t.drop ((b :: es).getD i 0).toNat).take (e - (b :: es).getD i 0).toNat)
  | [], b, i, e, h => by simp at h
  | x :: es, b, i, e, h => by
    cases i with
    | zero => have : x = e := Option.some.inj h; subst this; rfl
    | succ i => exact segs_get t es x i e h
/-- room enough for each sign -/
def Roomy (chs way z : Str) (width : Int) : Prop := ∀ x ∈ (txI z).map (sz chs way), x ≤ rm chs way width
theorem rm_Q {chs : Str} {width : Int} : width - ((fr chs wQ []).length : Int) = rm chs wQ width := by
  rw [fr_len]; unfold rm; rw [if_neg (by decide)]; push_cast; simp
theorem rm_B {chs : Str} {width : Int} : Int.fdiv (width - ((fr chs wB []).length : Int)) 4 * 3 = rm chs wB width := by
  rw [fr_len, Int.fdiv_eq_ediv_of_nonneg _ (by decide)]; unfold rm; rw [if_pos rfl]; push_cast; simp
/-- what a turn of words_of needs -/
theorem turn_facts {z chs way : Str} {width : Int} (hw : way = wQ ∨ way = wB) (hz : ∀ c ∈ txI z, Cod c ∧ has chs c = true) (hw0 : 18 ≤ width) (hw1 : width ≤ 75) (hcl : chs.length ≤ 10) (hr : Roomy chs way z width) {es : List Int} (hes : ce (rm chs way width) ((txI z).map (sz chs way)) 0 0 = es) {i : Nat} {k : Int} (hk : es[i]? = some k) :
    0 ≤ (0 :: es).getD i 0 ∧ (0 :: es).getD i 0 ≤ k ∧ k ≤ z.length ∧ (∀ c ∈ txI (Txt.slice z (some ((0 :: es).getD i 0)) (some k)), Cod c ∧ has chs c = true) ∧ (fr chs way (pay way (ens chs (Txt.slice z (some ((0 :: es).getD i 0)) (some k))))).length ≤ 75 ∧
    ((gr (rm chs way width) (sz chs way) (txI z) []).map (wd chs way))[i]? = some (fr chs way (pay way (ens chs (Txt.slice z (some ((0 :: es).getD i 0)) (some k))))) := by
  have hk0 := ce_bounds _ _ _ _ k (hes ▸ List.mem_of_getElem? hk)
  rw [List.length_map, txI_len] at hk0
  have hb1 := ce_step (rm chs way width) ((txI z).map (sz chs way)) 0 0 0 (Int.le_refl _) i k (hes ▸ hk)
  rw [hes] at hb1
  have hb0 : 0 ≤ (0 :: es).getD i 0 := by
    cases i with
    | zero => exact Int.le_refl _
    | succ i =>
      show 0 ≤ es.getD i 0
      rw [List.getD_eq_getElem?_getD]
      cases he : es[i]? with
      | none => exact Int.le_refl _
      | some e => exact (ce_bounds _ _ _ _ e (hes ▸ List.mem_of_getElem? he)).1
  have hs := segs_ce (rm chs way width) (sz chs way) (txI z) [] []
  have hs2 : segs (txI z) 0 es = gr (rm chs way width) (sz chs way) (txI z) [] := by rw [← hes]; exact hs
  have hg := segs_get (txI z) es 0 i k hk
  rw [hs2] at hg
  have ht := slice_txI (z := z) hb0 hb1 (by omega)
  rw [← ht] at hg
  have hmem := List.mem_of_getElem? hg
  have hsub : ∀ c ∈ txI (Txt.slice z (some ((0 :: es).getD i 0)) (some k)), c ∈ txI z := fun c hc => by
    have := gr_flat (rm chs way width) (sz chs way) (txI z) []
    rw [List.nil_append] at this
    rw [← this]
    exact List.mem_flatten.mpr ⟨_, hmem, hc⟩
  have hsum := gr_sum (room := rm chs way width) (f := sz chs way) (txI z) [] (fun c hc => hr _ (List.mem_map_of_mem hc)) (by
    exact rm_ge hcl (way_len hw).1 hw0) _ hmem
  have hl := wd_len hw hsum
  refine ⟨hb0, hb1, by omega, fun c hc => hz c (hsub c hc), ?_, ?_⟩
  · have : wd chs way (txI (Txt.slice z (some ((0 :: es).getD i 0)) (some k))) = fr chs way (pay way (ens chs (Txt.slice z (some ((0 :: es).getD i 0)) (some k)))) := rfl
    rw [this] at hl; omega
  · rw [List.getElem?_map, hg]; rfl
theorem cnt_le (room : Int) : ∀ (r : List Int) (u : Int), cnt room r u ≤ r.length + 1
  | [], _ => Nat.le_refl _
  | z :: r, u => by
    have h1 := cnt_le room r z
    have h2 := cnt_le room r (u + z)
    rw [cnt_cons, List.length_cons]; split
    · rw [Nat.add_comm 1]; exact Nat.succ_le_succ h1
    · exact Nat.le_succ_of_le h2
theorem sum_len_le (k : Nat) : ∀ l : List (List Int), (∀ a ∈ l, a.length ≤ k) → (l.map List.length).sum ≤ k * l.length
  | [], _ => by simp
  | a :: l, h => by
    rw [List.map_cons, List.sum_cons, List.length_cons, Nat.mul_add, Nat.mul_one, Nat.add_comm]
    exact Nat.add_le_add (sum_len_le k l fun b hb => h b (.tail _ hb)) (h a (.head _))
theorem words_75 {z chs way : Str} {width : Int} (hw : way = wQ ∨ way = wB) (hw0 : 18 ≤ width) (hw1 : width ≤ 75) (hcl : chs.length ≤ 10) (hr : Roomy chs way z width) : ∀ a ∈ (gr (rm chs way width) (sz chs way) (txI z) []).map (wd chs way), (a.length : Int) ≤ width := by
  intro a ha
  obtain ⟨p, hp, rfl⟩ := List.mem_map.mp ha
  refine wd_len hw (gr_sum (txI z) [] (fun c hc => hr _ (List.mem_map_of_mem hc)) ?_ p hp)
  exact rm_ge hcl (way_len hw).1 hw0
theorem q4 {W : Int} (h0 : 0 ≤ W) (h1 : W ≤ 75) : -2 ^ 64 < W / 4 ∧ W / 4 < 2 ^ 64 := ⟨Int.lt_of_lt_of_le (by decide) (Int.ediv_nonneg h0 (by decide)), Int.lt_of_le_of_lt (Int.ediv_le_ediv (by decide) h1) (by decide)⟩
section
variable {M : Model} {A : Around} {E : Value → Shared → Prop} {s : Shared} {env : Env} {h₀ : Heap} {L : Addr} {m₀ : Str → Option Value} {nw : List (Addr × Obj)}
/-- what an if leaves that may set one int name, whatever way it takes -/
def SetsI (h₀ : Heap) (L : Addr) (m₀ : Str → Option Value) (nw : List (Addr × Obj)) (x : Str) (v : Int) (s : Shared) (f : Flow) (s' : Shared) : Prop :=
  f = .next ∧ ∃ t h' k, s' = { s with heap := h', toks := k } ∧ Fr h₀ L h' (fun y => if y = x then some (.int v t) else m₀ y) ∧ News h₀ L h' nw
theorem SetsI.of {x : Str} {v v' : Int} {t : Tok} {h' : Heap} {k : Nat} (F' : Fr h₀ L h' (fun y => if y = x then some (.int v' t) else m₀ y)) (N' : News h₀ L h' nw) (e : v' = v) : SetsI h₀ L m₀ nw x v s .next { s with heap := h', toks := k } := ⟨rfl, t, h', k, rfl, e ▸ F', N'⟩
theorem SetsI.same {x : Str} {v : Int} {t : Tok} {h' : Heap} {k : Nat} (F' : Fr h₀ L h' m₀) (N' : News h₀ L h' nw) (e : m₀ x = some (.int v t)) : SetsI h₀ L m₀ nw x v s .next { s with heap := h', toks := k } := by
  have e2 : (fun y => if y = x then some (.int v t) else m₀ y) = m₀ := by
    funext y; by_cases hy : y = x
    · rw [if_pos hy, hy, e]
    · rw [if_neg hy]
  exact ⟨rfl, t, h', k, rfl, e2.symm ▸ F', N'⟩
theorem if_sets {test : Expr} {body : List Stmt} {pos : Pos} {Q : Flow → Shared → Prop} (x : Str) (v : Int) (F : Fr h₀ L s.heap m₀) (N : News h₀ L s.heap nw)
    (h : wpAny M A (isTrue test env (eval test env)) (fun b s₂ => if b = true then wpAny M A (execs body env) (SetsI h₀ L m₀ nw x v s) E s₂ else wpAny M A (execs [] env) (SetsI h₀ L m₀ nw x v s) E s₂) E s)
    (hn : Hold (∀ t h' k, Fr h₀ L h' (fun y => if y = x then some (.int v t) else m₀ y) → News h₀ L h' nw → Q .next { s with heap := h', toks := k })) : wpAny M A (exec (.If test body [] pos) env) Q E s :=
  wpAny_mono (wpAny_If h) (fun f s' h => by obtain ⟨rfl, t, h', k, rfl, F', N'⟩ := h; exact hn t h' k F' N') (fun _ _ h => h)
end
theorem rm_lim {chs way : Str} {width : Int} (hw : way = wQ ∨ way = wB) (hcl : chs.length ≤ 10) (hw0 : 18 ≤ width) (hw1 : width ≤ 75) : 0 ≤ rm chs way width ∧ rm chs way width ≤ 4096 := by
  have hwl := (way_len hw).1
  exact ⟨rm_ge hcl hwl hw0, Int.le_trans (rm_le hw1) (by decide)⟩
theorem words_of_at (w : World) (news : List (Addr × Obj)) (z chs way : Str) (width : Int) (t t' t2 t3 : Tok) (hcs : chs = cA ∨ chs = cL ∨ chs = cU) (hw : way = wQ ∨ way = wB) (hn : z.length ≤ 64) (hz : ∀ c ∈ txI z, Cod c ∧ has chs c = true) (hw0 : 18 ≤ width) (hw1 : width ≤ 75) :
    CGE w 8 290 [.str z t, .str chs t', .str way t2, .int width t3] news (fun h₀ L m s Q E => Roomy chs way z width → RB news (joinL [32] ((gr (rm chs way width) (sz chs way) (txI z) []).map (wd chs way))) h₀ L m s Q E) (∃ x ∈ (txI z).map (sz chs way), rm chs way width < x) := by
  have hcl := (cs_len hcs).1
  have hci := (cs_len hcs).2
  have hwl := (way_len hw).1
  have hwi := (way_len hw).2
  have hfl := fr_len chs way []
  rw [List.length_nil, hwl] at hfl
  have h75 := words_75 (z := z) hw hw0 hw1 hcl
  have hW0 : 0 ≤ width - ((fr chs way []).length : Int) := by rw [hfl]; have := rm_base hcl hwl hw0; rw [hwl] at this; exact this
  obtain ⟨hq0, hq1⟩ := q4 hW0 (Int.le_trans (Int.sub_le_self _ (Int.natCast_nonneg _)) hw1)
  clear hW0
  have hWl : ((gr (rm chs way width) (sz chs way) (txI z) []).map (wd chs way)).length ≤ 65 := by
    have := cnt_le (rm chs way width) ((txI z).map (sz chs way)) (smf (sz chs way) [])
    rw [List.length_map, gr_cnt]; rw [List.length_map, txI_len] at this; exact Nat.le_trans this (Nat.succ_le_succ hn)
  have hel := ce_len (rm chs way width) (sz chs way) (txI z) 0 0
  have hgl := gr_cnt (rm chs way width) (sz chs way) (txI z) []
  generalize hWW : (gr (rm chs way width) (sz chs way) (txI z) []).map (wd chs way) = WW at *
  w_top off
  intro mean mg mb dp un gd cn cs a ccd cl outer A₀ base h₀ L m s Q E B F X N T hk hd hu hret hexc
  refine wpAny_call ?_
  k_dflt cell_enter
  (try (refine let_AE ?_; intro A9q e9q))
  have hmkP161 : OwnW := True.intro
  k_with "exec If" => (guard_hyp hmkP161; k_here; k_dflt (refine' if_sets (Str.ofString "room") (rm chs way width) ?iF ?iN ?_ ?_; (case iF => k_asm); (case iN => k_asm)))
  (try k_fold)
  k_steps
  · rename (way == wB) = true => e1
    obtain rfl := eq_of_beq e1
    exact SetsI.of (by assumption) (by assumption) rm_B
  · rename (way == wB) = false => e1
    obtain rfl : way = wQ := hw.resolve_right (ne_of_beq_false e1)
    exact SetsI.same (by assumption) (by assumption) (congrArg (fun z => some (Value.int z _)) rm_Q)
  intro t9 h9 k9 F9 N9
  dsimp only
  (try k_fold)
  k_steps
  rename IntsAre _ (List.map (sz chs _) _) => hI9
  have hvl := hI9.length
  rw [List.length_map, txI_len] at hvl
  k_here
  k_dflt (refine' (chunk_ends_at w _ _ _ _ _ _ _ hI9 (by rw [List.length_map, txI_len]; exact hn) ?_ ?_ ?_) _ _ _ _ _ _ _ _ _ _ _ _ _ _ _ _ _ _ _ _ ?kB ?kF ?kX ?kN ?kT ?kK ?kD ?kU ?_ ?_; (case kB => k_asm); (case kF => k_asm); (case kX => k_asm); (case kN => k_asm); (case kT => k_asm); (case kK => first | exact rfl | assumption); (case kD => ktr_room); (case kU => ktr_units))
  · intro x hx
    obtain ⟨c, _, rfl⟩ := List.mem_map.mp hx
    have := sz_pos chs way c
    exact ⟨Int.le_trans (by decide) this.1, Int.le_trans this.2 (by decide)⟩
  · exact (rm_lim hw hcl hw0 hw1).1
  · exact (rm_lim hw hcl hw0 hw1).2
  · intro hroomy l2 vs2 n2 h' tk' hI2 F' N' o2'
    (try simp only [LCg.Off1, and_true] at o2')
    generalize hes : ce _ (List.map (sz chs _) (txI z)) 0 0 = es at hI2
    have hr9 : Roomy chs way z width := hroomy
    have hmkP162 : OwnW := True.intro
    k_with "pyIter ref" => (guard_hyp hmkP162; k_dflt (refine' lp_ints3 (σ := List Value × Nat × Int × Tok) (fun c => listOf c.1.toArray c.2.1) (fun c => [("begin", .int c.2.2.1 c.2.2.2)]) [] (fun i c => BtsAre c.1 (WW.take i) ∧ c.2.2.1 = (0 :: es).getD i 0) ([], 0, 0, _) hI2 rfl (by k_asm) (by k_asm) (by kst_all) ⟨.nil, rfl⟩ ?_ ?_))
    (try k_fold)
    k_steps
    · rintro i k t5 c u h1 tk5 own hk5 hoff ⟨hB5, hb5⟩ F' N'
      obtain ⟨f1, f2, f3, f4, f5, f6⟩ := turn_facts hw hz hw0 hw1 hcl hr9 hes hk5
      rw [← hb5] at f1 f2 f4 f5 f6
      rw [hWW] at f6
      have hBl := hB5.length
      rw [List.length_take] at hBl
      (try k_fold)
      (try (refine let_m F' ?_; clear F'; intro m9q F'm))
      k_steps
      refine' lp_end (_, _, k, _) ?lpF ?lpN ?lpn ?lpo ?lpa ?lpk ?lpr ?_
      (case lpF => k_asm)
      (case lpN => k_asm)
      (case lpn => kcf_all)
      (case lpo => kcf_all)
      (case lpa => exact rfl)
      (case lpk => first | exact List.forall_mem_nil _ | kst_all)
      (case lpr => (intro z9 h91 h92 h93; first | ((repeat (with_reducible refine lz_cond ?n9 ?_; (case n9 => first | exact h91 | exact lz_sto h93 rfl | exact lz_ps h92 rfl))); refine' (lz_off ?n9).trans ?_; (case n9 => first | exact lz_all h92 rfl | exact List.forall_mem_nil _); exact if_neg (lz_ns h93)) | ((try simp only [List.mem_cons, List.not_mem_nil, or_false, forall_eq, forall_eq_or_imp] at h92); first | (simp only [h91, if_false, kstB]; done) | (simp [kstB, h91, h92]; done) | (simp_all [kstB]; done))))
      refine ⟨?_, by dsimp only; rw [List.getD_cons_succ, List.getD_eq_getElem?_getD, hk5]; rfl⟩
      rw [List.take_add_one, f6, Option.toList_some]
      exact hB5.snoc (by assumption)
    · rintro c u h1 tk5 ⟨hB5, hb5⟩ F' N'
      have e65 : es.length = WW.length := by
        rw [← hes, ← hWW, List.length_map, hgl]; exact hel
      rw [e65, List.take_length] at hB5
      (try k_fold)
      (try (refine let_m F' ?_; clear F'; intro m9q F'm))
      k_steps
      k_dflt (refine' bytes_join (kss := WW) (sep := [32]) rfl (by is_list) hB5 ?_ ?_)
      · rw [joinL_length]
        have this9 := sum_len_le 75 WW fun a ha => Int.ofNat_le.mp (Int.le_trans (h75 hr9 a ha) hw1)
        have : 75 * WW.length ≤ 75 * 65 := Nat.mul_le_mul_left 75 hWl
        exact Nat.le_trans (Nat.add_le_add (by rw [List.length_singleton, Nat.one_mul]; exact Nat.le_trans (Nat.sub_le _ _) hWl) (Nat.le_trans this9 this)) (by decide : 65 + 75 * 65 ≤ 16777216)
      · intro b' t' k' hb'
        (try k_fold)
        (try (refine let_m F' ?_; clear F'; intro m9q F'm))
        k_steps
        refine' gBytes (Q := Q) (hret hr9) ?_ ?cF ?cN
        (case cF => k_asm)
        (case cN => first | k_asm | (refine' cb_drop ?cbN ?cbS; (case cbN => assumption); (case cbS => kcj_all)))
        exact hb'
  · rintro hx e te ve g2 h' tk' Fg RS RK U
    refine' leave_onS (F := Fg) (R := RS) (hsm := U) ?_ ?_
    · assumption
    · intro h2 RS2 RK2 U2
      refine hexc ?_ _ _ _ _ _ _ (by assumption) (RaisedS_sub RS2 (by kcf_all)) (RaisedK_sub RK2 (by kcf_all)) U2
      exact hx

def iws (c : Int) : Bool := decide (33 ≤ c ∧ c ≤ 126 ∧ c ≠ 63)
def pend (ks : List Int) (i : Int) : Int := if ((ks.drop i.toNat).dropWhile iws).head? = some 63 then i + ((ks.drop i.toNat).takeWhile iws).length else -1
theorem drop_getD {ks : List Int} {i : Int} (h0 : 0 ≤ i) (h1 : i < ks.length) : ks.drop i.toNat = ks.getD i.toNat 0 :: ks.drop (i + 1).toNat := by
  obtain ⟨n, rfl⟩ := Int.eq_ofNat_of_zero_le h0
  have hn : n < ks.length := by omega
  show ks.drop n = ks.getD n 0 :: ks.drop (n + 1)
  rw [List.drop_eq_getElem_cons hn]; simp [List.getD_eq_getElem?_getD, List.getElem?_eq_getElem hn]
theorem pend_step {ks : List Int} {i : Int} (h0 : 0 ≤ i) (h1 : i < ks.length) (h : iws (ks.getD i.toNat 0) = true) : pend ks i = pend ks (i + 1) := by
  unfold pend
  rw [drop_getD h0 h1, List.dropWhile_cons_of_pos h, List.takeWhile_cons_of_pos h, List.length_cons]
  congr 1
  omega
theorem pend_at {ks : List Int} {i : Int} (h0 : 0 ≤ i) (h1 : i < ks.length) (h : ks.getD i.toNat 0 = 63) : pend ks i = i := by
  unfold pend
  rw [drop_getD h0 h1, h, List.dropWhile_cons_of_neg (by decide), List.takeWhile_cons_of_neg (by decide)]
  simp
theorem pend_no {ks : List Int} {i : Int} (h0 : 0 ≤ i) (h1 : i < ks.length) (h : iws (ks.getD i.toNat 0) = false) (h2 : ks.getD i.toNat 0 ≠ 63) : pend ks i = -1 := by
  unfold pend
  rw [drop_getD h0 h1, List.dropWhile_cons_of_neg (by rw [h]; decide), if_neg (by simpa using h2)]
theorem pend_out {ks : List Int} {i : Int} (h1 : ¬ i < ks.length) : pend ks i = -1 := by
  unfold pend
  rw [List.drop_eq_nil_of_le (by omega), if_neg (by simp)]
theorem part_end_at (w : World) (news : List (Addr × Obj)) (b : Array UInt8) (ks : List Int) (t t' : Tok) (i : Int) (hb : KBw.bInts b = ks) (hn : ks.length ≤ 4096) (h0 : 0 ≤ i) (hi : i ≤ 4096) : CG w 2 304 [.bytes b t, .int i t'] news (RI news (pend ks i)) := by
  w_top off
  intro mean mg mb dp un gd cn cs a ccd cl outer A₀ base h₀ L m s Q E B F X N T hk hd hu hret
  refine wpAny_call ?_
  k_dflt cell_enter
  (try (refine let_AE ?_; intro A9q e9q)); (try ((with_reducible rename Fr _ _ _ _ => F9q); refine let_m F9q ?_; clear F9q; intro m9q F'))
  have hmkW11 : OwnW := True.intro
  k_with "exec While" => (guard_hyp hmkW11; k_dflt (refine' lp_whileG (σ := Int × Tok) (fun c => news) (fun c => [("here", .int c.1 c.2)]) [] (fun c => i ≤ c.1 ∧ c.1 ≤ 4097 ∧ pend ks c.1 = pend ks i) (fun c => 5000 - c.1.toNat) (i, _) (by k_asm) (by k_asm) (by kst_all) ⟨Int.le_refl _, by dsimp only; omega, rfl⟩ (by passes_own) ?_))
  (try k_fold)
  k_steps
  intro c u h1 tk ⟨hI, hl, hJ⟩ F' N'
  have hin : c.1 < ks.length → 0 ≤ ks.getD c.1.toNat 0 ∧ ks.getD c.1.toNat 0 < 256 := fun h => bints_in hb _ (by
    rw [List.getD_eq_getElem?_getD, List.getElem?_eq_getElem (by omega)]; exact List.getElem_mem _)
  (try k_fold)
  (try (refine let_m F' ?_; clear F'; intro m9q F'm))
  k_steps
  · rename (c.1 < (ks.length : Int)) => e1; rename (ite _ _ _ = true) => e2
    rw [if_pos (hin e1)] at e2
    refine' ksw_end (c.1 + 1, _) ?lpF ?lpN ?lpn trivial ?lpk ?lpr ?_ ?_
    (case lpF => k_asm)
    (case lpN => k_asm)
    (case lpn => kcf_all)
    (case lpk => first | exact List.forall_mem_nil _ | kst_all)
    (case lpr => (intro z9 h92 h93; first | ((repeat (with_reducible refine lz_cond ?n9 ?_; (case n9 => first | exact lz_sto h93 rfl | exact lz_ps h92 rfl))); refine' (lz_off ?n9).trans ?_; (case n9 => first | exact lz_all h92 rfl | exact List.forall_mem_nil _); exact if_neg (lz_ns h93)) | ((try simp only [List.mem_cons, List.not_mem_nil, or_false, forall_eq, forall_eq_or_imp] at h92); first | (simp [kstB, h92]; done) | (simp_all [kstB]; done))))
    · exact ⟨by dsimp only; omega, by dsimp only; omega, by rw [← pend_step (by omega) e1 e2]; exact hJ⟩
    · exact meas (a := 5000) (by omega) (by omega) (by dsimp only; omega)
  · rename (c.1 < (ks.length : Int)) => e1; rename (ks.getD _ 0 = 63) => e3
    refine' gInt (Q := Q) hret ?_ ?cF ?cN
    (case cF => k_asm)
    (case cN => first | k_asm | (refine' cb_drop ?cbN ?cbS; (case cbN => assumption); (case cbS => kcj_all)))
    rw [← hJ, pend_at (by omega) e1 e3]
  · rename (c.1 < (ks.length : Int)) => e1; rename (ks.getD _ 0 ≠ 63) => e3; rename (ite _ _ _ = false) => e2
    rw [if_pos (hin e1)] at e2
    refine' gInt (Q := Q) hret ?_ ?cF ?cN
    (case cF => k_asm)
    (case cN => first | k_asm | (refine' cb_drop ?cbN ?cbS; (case cbN => assumption); (case cbS => kcj_all)))
    rw [← hJ, pend_no (by omega) e1 e2 e3]
  · rename (¬ c.1 < (ks.length : Int)) => e1
    refine' gInt (Q := Q) hret ?_ ?cF ?cN
    (case cF => k_asm)
    (case cN => first | k_asm | (refine' cb_drop ?cbN ?cbS; (case cbN => assumption); (case cbS => kcj_all)))
    rw [← hJ, pend_out e1]

theorem layW21 : True := by
  k_with "my call ref" => ((k_here; (with_reducible show wpAny _ _ (PySem.call (Value.ref 304) _) _ _ _); k_dflt (refine' called (part_end_at _ _ _ _ _ _ _ (by kba_ints) (by omega) (by omega) (by omega)) ?kBZ9 ?kFZ9 ?kXZ9 ?kNZ9 ?kTZ9 ?kKZ9 ?kDZ9 ?kUZ9 ?_; (case kBZ9 | kFZ9 | kXZ9 | kNZ9 | kTZ9 => k_asm); (case kKZ9 => first | exact rfl | assumption); (case kDZ9 => ktr_room); (case kUZ9 => ktr_units)); intro t'q h'q tk'q F'q N'q))
  exact True.intro
theorem pend_app (pre p rest : List Int) (h : ∀ c ∈ p, iws c = true) : pend (pre ++ (p ++ 63 :: rest)) (pre.length : Int) = pre.length + p.length := by
  unfold pend
  rw [Int.toNat_natCast, List.drop_left]
  have h63 : iws 63 = false := by decide
  have d : ∀ p : List Int, (∀ c ∈ p, iws c = true) → (p ++ 63 :: rest).dropWhile iws = 63 :: rest ∧ (p ++ 63 :: rest).takeWhile iws = p := by
    intro p
    induction p with
    | nil => intro _; exact ⟨List.dropWhile_cons_of_neg (by rw [h63]; decide), List.takeWhile_cons_of_neg (by rw [h63]; decide)⟩
    | cons a p ih =>
      intro h
      obtain ⟨i1, i2⟩ := ih fun c hc => h c (.tail _ hc)
      have ha := h a (.head _)
      exact ⟨by rw [List.cons_append, List.dropWhile_cons_of_pos ha, i1], by rw [List.cons_append, List.takeWhile_cons_of_pos ha, i2]⟩
  rw [(d p h).1, (d p h).2, if_pos (show (63 :: rest).head? = some 63 from rfl)]
theorem bints_inj {a b : Array UInt8} (h : KBw.bInts a = KBw.bInts b) : a = b := by
  have h2 : a.toList = b.toList := by
    unfold KBw.bInts at h
    refine (List.map_inj_right (fun x y e => ?_)).mp h
    exact UInt8.toNat_inj.mp (by exact Int.ofNat.inj e)
  exact Array.toList_inj.mp h2
theorem ne_same {prog : Program} {w : World} {A : Around} {E : Value → Shared → Prop} {s : Shared} {b c : Array UInt8} {t u : Tok} {xs ys : List Int} {Q : Value → Shared → Prop} (h1 : KBw.bInts b = xs) (h2 : xs = ys) (h3 : KBw.bInts c = ys) (q : Q (.bool false) s) : wpAny (model prog w) A (compareOp .NotEq (.bytes b t) (.bytes c u)) Q E s := by
  have : b = c := bints_inj (by rw [h1, h2, h3])
  subst this
  refine ne_bytes ?_
  simpa using q
theorem item_lit {prog : Program} {w : World} {A : Around} {E : Value → Shared → Prop} {s : Shared} {value slice : PySem.Expr} {l : Addr} {vs : List Value} {k : Int} {u : Tok} {v : Value} {Q : Value → Shared → Prop} (hl : s.heap.IsList l vs.toArray) (h0 : 0 ≤ k) (hhi : k < 2 ^ 63) (hx : vs[k.toNat]? = some v) (h : Q v s)
    (hs : subscripted slice false (.ref l) (.int k u) = operate [.ref l, .int k u] (getItem (.ref l) (.int k u)) := by with_unfolding_all rfl) : wpAny (model prog w) A (subscriptTail value slice (.ref l) (.int k u)) Q E s :=
  tail_any hl.typeIs slot_list_getitem.lookup (wpAny_getItem_list hl h0 hhi (by simpa using hx) h) hs
theorem part_end_k {w : World} {news : List (Addr × Obj)} {b : Array UInt8} {ks : List Int} {t t' : Tok} {i k : Int} (hb : KBw.bInts b = ks) (hk : pend ks i = k) (hn : ks.length ≤ 4096) (h0 : 0 ≤ i) (hi : i ≤ 4096) : CG w 2 304 [.bytes b t, .int i t'] news (RI news k) := hk ▸ part_end_at w news b ks t t' i hb hn h0 hi
theorem layW22 : True := by
  k_with "my compareOp NotEq bytes bytes" => ((k_here; k_dflt (refine ne_same (by kba_ints) (by assumption) rfl ?_)))
  k_with "my call ref" => ((k_here; (with_reducible show wpAny _ _ (PySem.call (Value.ref 304) _) _ _ _); k_dflt (refine' called (part_end_k (by kba_ints) (by with_reducible assumption) (by omega) (by omega) (by omega)) ?kBZ9 ?kFZ9 ?kXZ9 ?kNZ9 ?kTZ9 ?kKZ9 ?kDZ9 ?kUZ9 ?_; (case kBZ9 | kFZ9 | kXZ9 | kNZ9 | kTZ9 => k_asm); (case kKZ9 => first | exact rfl | assumption); (case kDZ9 => ktr_room); (case kUZ9 => ktr_units)); intro t'q h'q tk'q F'q N'q))
  k_with "my subscriptTail Name Constant ref int" => ((k_here; (with_reducible show wpAny _ _ (subscriptTail _ _ (Value.ref _) (Value.int _ _)) _ _ _); (with_unfolding_all refine' item_lit ?k1Z9 ?k2Z9 ?k3Z9 ?k4Z9 ?_ ?k6Z9; (case k1Z9 => is_list); (case k2Z9 => decide); (case k3Z9 => decide); (case k4Z9 => rfl); (case k6Z9 => with_unfolding_all rfl); k_whole)))
  k_with "my subscriptTail Name Name ref int" => ((k_here; (with_reducible show wpAny _ _ (subscriptTail _ _ (Value.ref _) (Value.int _ _)) _ _ _); (with_unfolding_all refine' item_lit ?k1Z9 ?k2Z9 ?k3Z9 ?k4Z9 ?_ ?k6Z9; (case k1Z9 => is_list); (case k2Z9 => decide); (case k3Z9 => decide); (case k4Z9 => rfl); (case k6Z9 => with_unfolding_all rfl); k_whole)))
  k_with "my subscriptTail Name BinOp ref int" => ((k_here; (with_reducible show wpAny _ _ (subscriptTail _ _ (Value.ref _) (Value.int _ _)) _ _ _); (with_unfolding_all refine' item_lit ?k1Z9 ?k2Z9 ?k3Z9 ?k4Z9 ?_ ?k6Z9; (case k1Z9 => is_list); (case k2Z9 => decide); (case k3Z9 => decide); (case k4Z9 => rfl); (case k6Z9 => with_unfolding_all rfl); k_whole)))
  exact True.intro
def FrIn (ks c1 c2 c3 : List Int) : Prop := ks = [61, 63] ++ (c1 ++ ([63] ++ (c2 ++ ([63] ++ (c3 ++ [63, 61]))))) ∧ (∀ c ∈ c1, iws c = true) ∧ (∀ c ∈ c2, iws c = true) ∧ (∀ c ∈ c3, iws c = true)
section
variable {prog : Program} {w : World} {A : Around} {E : Value → Shared → Prop} {s : Shared} {h₀ : Heap} {L : Addr} {m : Str → Option Value} {env : Env} {elt ct iter : Expr} {x : Str} {scope : Scope} {cl : List (Str × Addr)} {nw : List (Addr × Obj)} {Fin : Shared → List Value → List (Addr × Obj) → Prop}
theorem cpU_rangeC {r : Addr} {a₀ b₀ c₁ : Int} {t₀ u₀ v₀ : Tok} {n : Nat} (J : Nat → List Value → Prop) (F : Fr h₀ L s.heap m) (N : News h₀ L s.heap nw)
    (hh : A.handled = none) (hr : IsRange s.heap r a₀ b₀ c₁ t₀ u₀ v₀) (hsmall : Builtin.Range.small a₀ b₀ c₁ = true) (hn : Builtin.Range.rangeSize a₀ b₀ c₁ = (n : Int)) (hsz : n ≤ 16777216) (hj : J 0 [])
    (turn : Hold (∀ (i : Nat) (k : Int) (t : Tok) ys I oI C oC D m₂ h tk (E' : Value → Shared → Prop), i < n → k = a₀ + (i : Int) * c₁ → J i ys → LCg.NsObj oC m₂ → m₂ x = some (.int k t) → Fr h₀ L h m → News h₀ L h ((I, oI) :: (C, oC) :: (D, LCg.lst ys) :: nw) → LCg.Off3 I C D nw → ((@Ne Nat I C) ∧ (@Ne Nat I D) ∧ (@Ne Nat C D)) →
      wpAny (model prog w) A (eval elt (compEnvC scope cl C env)) (LCg.CompEnd h₀ L m { s with heap := h, toks := tk } I oI C oC D (LCg.lst ys) AnySrc (fun y news' => ∃ _ : Unit, news' = nw ∧ J (i + 1) (ys ++ [y]))) E' { s with heap := h, toks := tk }))
    (fin : Hold (∀ g ys, J n ys → Fin { s with heap := g } ys nw)) :
    wpAny (model prog w) A (pyIter (.ref r)) (CpU prog w A h₀ L m env elt x scope cl Fin) E s :=
  cpU_range (σ := Unit) (fun _ => nw) (fun i _ ys => J i ys) () hh hr hsmall hn hsz F N hj (fun i k t _ => turn i k t) (fun g _ ys => fin g ys)
end
/-- where the parts of a word stand -/
theorem tsub (x c : Nat) (y : Int) (h : y = (x : Int)) : (((x + c : Nat) : Int) - y).toNat = c := by rw [h, Int.toNat_sub, Nat.add_sub_cancel_left]
theorem dropl {ks l r : List Int} {x : Nat} (e : ks = l ++ r) (h : l.length = x) : ks.drop x = r := by rw [e, ← h, List.drop_left]
theorem dropt {ks l p r : List Int} {x : Nat} {y : Int} (e : ks = l ++ (p ++ r)) (h : l.length = x) (hy : y = (x : Int)) : (ks.drop y.toNat).take ((((x + p.length : Nat) : Int)) - y).toNat = p := by
  rw [tsub _ _ _ hy, hy, Int.toNat_natCast, dropl e h, List.take_left]
theorem frin_facts {ks c1 c2 c3 : List Int} (hf : FrIn ks c1 c2 c3) (hn : ks.length ≤ 4000) : ∃ m1 m2 m3 : Int, pend ks (0 + 1 + 1) = m1 ∧ pend ks (m1 + 1) = m2 ∧ pend ks (m2 + 1) = m3 ∧ 0 ≤ m1 ∧ 0 ≤ m1 + 1 ∧ m1 + 1 ≤ 4096 ∧ 0 ≤ m2 ∧ 0 ≤ m2 + 1 ∧ m2 + 1 ≤ 4096 ∧ 0 ≤ m3 ∧ 0 ≤ m3 + 2 ∧ (ks.length : Int) = m3 + 2 ∧
    (ks.drop (Int.toNat 0)).take (0 + 2 - 0 : Int).toNat = [61, 63] ∧ (ks.drop m3.toNat).take (m3 + 2 - m3).toNat = [63, 61] ∧
    (ks.drop (0 + 1 + 1 : Int).toNat).take (m1 - (0 + 1 + 1)).toNat = c1 ∧ (ks.drop (m1 + 1).toNat).take (m2 - (m1 + 1)).toNat = c2 ∧ (ks.drop (m2 + 1).toNat).take (m3 - (m2 + 1)).toNat = c3 := by
  obtain ⟨he, i1, i2, i3⟩ := hf
  have e1 : ks = [61, 63] ++ (c1 ++ 63 :: (c2 ++ ([63] ++ (c3 ++ [63, 61])))) := he
  have e2 : ks = ([61, 63] ++ c1 ++ [63]) ++ (c2 ++ 63 :: (c3 ++ [63, 61])) := by rw [he]; simp
  have e3 : ks = ([61, 63] ++ c1 ++ [63] ++ c2 ++ [63]) ++ (c3 ++ 63 :: [61]) := by rw [he]; simp
  have e4 : ks = ([61, 63] ++ c1 ++ [63] ++ c2 ++ [63] ++ c3) ++ [63, 61] := by rw [he]; simp
  have p1 := pend_app [61, 63] c1 (c2 ++ ([63] ++ (c3 ++ [63, 61]))) i1
  have p2 := pend_app ([61, 63] ++ c1 ++ [63]) c2 (c3 ++ [63, 61]) i2
  have p3 := pend_app ([61, 63] ++ c1 ++ [63] ++ c2 ++ [63]) c3 [61] i3
  rw [← e1] at p1
  rw [← e2] at p2
  rw [← e3] at p3
  have l1 : ([61, 63] ++ c1 ++ [63] : List Int).length = 2 + c1.length + 1 := by rw [List.length_append, List.length_append]; rfl
  have l2 : ([61, 63] ++ c1 ++ [63] ++ c2 ++ [63] : List Int).length = 2 + c1.length + 1 + c2.length + 1 := by rw [List.length_append, List.length_append, l1]; rfl
  have l3 : ([61, 63] ++ c1 ++ [63] ++ c2 ++ [63] ++ c3 : List Int).length = 2 + c1.length + 1 + c2.length + 1 + c3.length := by rw [List.length_append, l2]
  rw [l1] at p2
  rw [l2] at p3
  have hl : ks.length = 2 + c1.length + 1 + c2.length + 1 + c3.length + 2 := by rw [e4, List.length_append, l3]; rfl
  clear he i1 i2 i3
  replace p1 : pend ks (0 + 1 + 1) = ((2 + c1.length : Nat) : Int) := p1
  have f1 := dropt (p := c1) e1 rfl (rfl : (0 + 1 + 1 : Int) = _)
  have f2 := dropt (p := c2) e2 l1 rfl
  have f3 := dropt (p := c3) e3 l2 rfl
  have f4 := dropl e4 l3
  have f0 : (ks.drop (Int.toNat 0)).take (0 + 2 - 0 : Int).toNat = [61, 63] := by rw [e1]; rfl
  have hb2 : 2 + c1.length + 1 + c2.length + 1 ≤ 4096 := Nat.le_trans (Nat.le_trans (Nat.le_add_right _ (c3.length + 2)) (Nat.le_of_eq hl.symm)) (Nat.le_trans hn (by decide))
  have hb1 : 2 + c1.length + 1 ≤ 4096 := Nat.le_trans (Nat.le_trans (Nat.le_add_right _ c2.length) (Nat.le_succ _)) hb2
  clear e1 e2 e3 e4 l1 l2 l3
  generalize 2 + c1.length = n1 at *
  refine ⟨(n1 : Int), ((n1 + 1 + c2.length : Nat) : Int), ((n1 + 1 + c2.length + 1 + c3.length : Nat) : Int), p1, p2, p3, Int.natCast_nonneg _, Int.natCast_nonneg (n1 + 1), Int.ofNat_le.mpr hb1, Int.natCast_nonneg _, Int.natCast_nonneg (n1 + 1 + c2.length + 1), Int.ofNat_le.mpr hb2, Int.natCast_nonneg _, Int.natCast_nonneg (n1 + 1 + c2.length + 1 + c3.length + 2), congrArg Int.ofNat hl, f0, ?_, f1, f2, f3⟩
  rw [icl, Int.toNat_natCast, f4]; rfl
theorem ints_cons {vs : List Value} {a : Int} {l : List Int} (h : IntsAre vs (a :: l)) : ∃ t r, vs = .int a t :: r ∧ IntsAre r l := by
  cases h with
  | cons _ t h => exact ⟨t, _, rfl, h⟩
theorem ints_nil {vs : List Value} (h : IntsAre vs []) : vs = [] := by cases h; rfl
theorem bts_cons {vs : List Value} {a : List Int} {l : List (List Int)} (h : BtsAre vs (a :: l)) : ∃ b t r, vs = .bytes b t :: r ∧ KBw.bInts b = a ∧ BtsAre r l := by
  cases h with
  | cons e h => exact ⟨_, _, _, rfl, e, h⟩
theorem bts_nil {vs : List Value} (h : BtsAre vs []) : vs = [] := by cases h; rfl
theorem ia1 {vs : List Value} {a : Int} (h : IntsAre vs [a]) : ∃ t, vs = [.int a t] :=
  let ⟨t, _, e, h⟩ := ints_cons h; ⟨t, by rw [e, ints_nil h]⟩
theorem ia2 {vs : List Value} {a b : Int} (h : IntsAre vs [a, b]) : ∃ t u, vs = [.int a t, .int b u] :=
  let ⟨t, _, e, h⟩ := ints_cons h; let ⟨u, e2⟩ := ia1 h; ⟨t, u, by rw [e, e2]⟩
theorem ia3 {vs : List Value} {a b c : Int} (h : IntsAre vs [a, b, c]) : ∃ t u x, vs = [.int a t, .int b u, .int c x] :=
  let ⟨t, _, e, h⟩ := ints_cons h; let ⟨u, x, e2⟩ := ia2 h; ⟨t, u, x, by rw [e, e2]⟩
theorem ia4 {vs : List Value} {a b c d : Int} (h : IntsAre vs [a, b, c, d]) : ∃ t u x y, vs = [.int a t, .int b u, .int c x, .int d y] :=
  let ⟨t, _, e, h⟩ := ints_cons h; let ⟨u, x, y, e2⟩ := ia3 h; ⟨t, u, x, y, by rw [e, e2]⟩
theorem ba3 {vs : List Value} {a b c : List Int} (h : BtsAre vs [a, b, c]) : ∃ x t y u z v, vs = [.bytes x t, .bytes y u, .bytes z v] ∧ KBw.bInts x = a ∧ KBw.bInts y = b ∧ KBw.bInts z = c := by
  obtain ⟨x, t, _, rfl, f1, h⟩ := bts_cons h
  obtain ⟨y, u, _, rfl, f2, h⟩ := bts_cons h
  obtain ⟨z, v, _, rfl, f3, h⟩ := bts_cons h
  exact ⟨x, t, y, u, z, v, by rw [bts_nil h], f1, f2, f3⟩
theorem lt3 {i : Nat} (h : i < 3) : i = 0 ∨ i = 1 ∨ i = 2 := by
  rcases Nat.lt_succ_iff_lt_or_eq.mp h with h | h
  · rcases Nat.lt_succ_iff_lt_or_eq.mp h with h | h
    · exact .inl (Nat.lt_one_iff.mp h)
    · exact .inr (.inl h)
  · exact .inr (.inr h)
/-- a new tuple comes back: three bytes and an int -/
abbrev RT4 (news : List (Addr × Obj)) (k1 k2 k3 : List Int) (x : Int) : Cont := fun h₀ L m s Q _ => ∀ (T : Addr) (b1 b2 b3 : Array UInt8) (t1 t2 t3 t4 : Tok) (y : Int) (h' : Heap) (tk' : Nat), KBw.bInts b1 = k1 → KBw.bInts b2 = k2 → KBw.bInts b3 = k3 → y = x → Fr h₀ L h' m → News h₀ L h' ((T, { cls := .type "tuple", data := .seq #[.bytes b1 t1, .bytes b2 t2, .bytes b3 t3, .int y t4] }) :: news) → LCg.Off1 T news → Q (.ref T) { s with heap := h', toks := tk' }
theorem word_parts_at (w : World) (news : List (Addr × Obj)) (b : Array UInt8) (ks c1 c2 c3 : List Int) (t t' : Tok) (hb : KBw.bInts b = ks) (hn : ks.length ≤ 4000) (hf : FrIn ks c1 c2 c3) : CG w 4 309 [.bytes b t, .int 0 t'] news (RT4 news c1 c2 c3 ks.length) := by
  obtain ⟨m1, m2, m3, p1, p2, p3, q1, q11, q12, q2, q21, q22, q3, q31, q4, s1, s2, s3, s4, s5⟩ := frin_facts hf hn
  clear hf
  w_top off
  intro mean mg mb dp un gd cn cs a ccd cl outer A₀ base h₀ L m s Q E B F X N T hk hd hu hret
  refine wpAny_call ?_
  k_dflt (refine' code_defC ?k1 ?k2 ?k3 ?k4 ?k5 ?kA ?kF ?kK ?k6 ?k7 ?k8 ?k9 ?kB ?kD ?_ ?c2 ?c3 ?c4; (case kA => exact rfl); (case kF => exact rfl); (case kK => assumption); (case k1 => k_asm); (case k2 => k_asm); (case k3 => k_asm); (case k4 => k_asm); (case k5 => k_asm); (case k6 => k_is); (case k7 => k_is); (case k8 => ktr_room); (case k9 => exact BindsTo.of_eq rfl); (case kB => exact rfl); (case kD => decide +kernel); (case c2 => exact rfl); (case c3 => exact rfl); (case c4 => exact rfl); k_whole)
  intro g' L' h' tk' cells' FG' F' N' Y' B' X' T' l1
  obtain ⟨oA, oB, hE, dA, dB⟩ := CellsAre.two Y'; subst hE; clear Y'
  (try simp only [List.cons_append, List.nil_append] at N'); (try dsimp only); (try k_lift B'); (try k_fold); (try (refine let_AE ?_; intro A9q e9q)); (try ((with_reducible rename Fr _ _ _ _ => F9q); refine let_m F9q ?_; clear F9q; intro m9q F'))
  have hmkW21 : OwnW := True.intro
  k_with "pyIter ref" => (guard_hyp hmkW21; k_dflt (refine' lp_range (n := 3) (σ := List Value × List Int × Nat) (fun c => listOf c.1.toArray c.2.2) (fun c => []) [] (fun i c => IntsAre c.1 c.2.1 ∧ c.2.1 = [0 + 1, m1, m2, m3].take (i + 1)) ([_], [0 + 1], 0) rfl (by assumption) (by decide) (by decide) (by k_asm) (by k_asm) (fun _ hp => nomatch hp) ⟨.cons _ _ .nil, rfl⟩ ?_ ?_))
  (try k_fold)
  k_steps
  · rintro i k t2 c u h1 tk2 own hi2 hk2 hoff ⟨hI, hJ⟩ F' N'
    obtain ⟨cv, ci, cn⟩ := c
    dsimp only at hI hJ F' N'
    subst hJ
    rcases lt3 hi2 with rfl | rfl | rfl
    · obtain ⟨tx0, rfl⟩ := ia1 hI
      simp only [List.cons_append] at N'
      (try k_fold)
      (try (refine let_m F' ?_; clear F'; intro m9q F'm))
      k_steps
      refine' lp_end ([.int (0 + 1) tx0, .int m1 _], [0 + 1, m1], _) ?lpF ?lpN ?lpn ?lpo ?lpa ?lpk ?lpr ?_
      (case lpF => k_asm)
      (case lpN => k_asm)
      (case lpn => kcf_all)
      (case lpo => kcf_all)
      (case lpa => exact rfl)
      (case lpk => first | exact List.forall_mem_nil _ | kst_all)
      (case lpr => (intro z9 h91 h92 h93; first | ((repeat (with_reducible refine lz_cond ?n9 ?_; (case n9 => first | exact h91 | exact lz_sto h93 rfl | exact lz_ps h92 rfl))); refine' (lz_off ?n9).trans ?_; (case n9 => first | exact lz_all h92 rfl | exact List.forall_mem_nil _); exact if_neg (lz_ns h93)) | ((try simp only [List.mem_cons, List.not_mem_nil, or_false, forall_eq, forall_eq_or_imp] at h92); first | (simp only [h91, if_false, kstB]; done) | (simp [kstB, h91, h92]; done) | (simp_all [kstB]; done))))
      exact ⟨.cons _ _ (.cons _ _ (.nil)), rfl⟩
    · obtain ⟨tx0, tx1, rfl⟩ := ia2 hI
      simp only [List.cons_append] at N'
      (try k_fold)
      (try (refine let_m F' ?_; clear F'; intro m9q F'm))
      k_steps
      refine' lp_end ([.int (0 + 1) tx0, .int (m1) tx1, .int m2 _], [0 + 1, m1, m2], _) ?lpF ?lpN ?lpn ?lpo ?lpa ?lpk ?lpr ?_
      (case lpF => k_asm)
      (case lpN => k_asm)
      (case lpn => kcf_all)
      (case lpo => kcf_all)
      (case lpa => exact rfl)
      (case lpk => first | exact List.forall_mem_nil _ | kst_all)
      (case lpr => (intro z9 h91 h92 h93; first | ((repeat (with_reducible refine lz_cond ?n9 ?_; (case n9 => first | exact h91 | exact lz_sto h93 rfl | exact lz_ps h92 rfl))); refine' (lz_off ?n9).trans ?_; (case n9 => first | exact lz_all h92 rfl | exact List.forall_mem_nil _); exact if_neg (lz_ns h93)) | ((try simp only [List.mem_cons, List.not_mem_nil, or_false, forall_eq, forall_eq_or_imp] at h92); first | (simp only [h91, if_false, kstB]; done) | (simp [kstB, h91, h92]; done) | (simp_all [kstB]; done))))
      exact ⟨.cons _ _ (.cons _ _ (.cons _ _ (.nil))), rfl⟩
    · obtain ⟨tx0, tx1, tx2, rfl⟩ := ia3 hI
      simp only [List.cons_append] at N'
      (try k_fold)
      (try (refine let_m F' ?_; clear F'; intro m9q F'm))
      k_steps
      refine' lp_end ([.int (0 + 1) tx0, .int (m1) tx1, .int (m2) tx2, .int m3 _], [0 + 1, m1, m2, m3], _) ?lpF ?lpN ?lpn ?lpo ?lpa ?lpk ?lpr ?_
      (case lpF => k_asm)
      (case lpN => k_asm)
      (case lpn => kcf_all)
      (case lpo => kcf_all)
      (case lpa => exact rfl)
      (case lpk => first | exact List.forall_mem_nil _ | kst_all)
      (case lpr => (intro z9 h91 h92 h93; first | ((repeat (with_reducible refine lz_cond ?n9 ?_; (case n9 => first | exact h91 | exact lz_sto h93 rfl | exact lz_ps h92 rfl))); refine' (lz_off ?n9).trans ?_; (case n9 => first | exact lz_all h92 rfl | exact List.forall_mem_nil _); exact if_neg (lz_ns h93)) | ((try simp only [List.mem_cons, List.not_mem_nil, or_false, forall_eq, forall_eq_or_imp] at h92); first | (simp only [h91, if_false, kstB]; done) | (simp [kstB, h91, h92]; done) | (simp_all [kstB]; done))))
      exact ⟨.cons _ _ (.cons _ _ (.cons _ _ (.cons _ _ (.nil)))), rfl⟩
  · rintro c u h1 tk2 ⟨hI, hJ⟩ F' N'
    obtain ⟨cv, ci, cn⟩ := c
    dsimp only at hI hJ F' N'
    subst hJ
    obtain ⟨tx0, tx1, tx2, tx3, rfl⟩ := ia4 hI
    have hMC : MyComp := True.intro
    have hmkW22 : OwnW := True.intro
    k_with "pyIter ref" => (guard_hyp hmkW22; k_dflt (refine' (id : Hold _ → _) ?_))
    (try k_fold)
    (try (refine let_m F' ?_; clear F'; intro m9q F'm))
    k_steps
    rename News _ _ _ ((_, W.listOf #[_, _, _, _] _) :: _) => NN
    show wpAny _ _ _ _ _ _
    k_dflt (refine' cpU_rangeC (n := 3) (fun i ys => BtsAre ys ([c1, c2, c3].take i)) (by k_asm) NN rfl (by assumption) (by decide) (by decide) (by decide) .nil ?_ ?_)
    · intro i k t3 ys I oI C oC D m₂ h1 tk E' hi3 hk3 hJ hC hx F' N' off ne
      subst hk3
      rcases lt3 hi3 with rfl | rfl | rfl
      · (try k_fold)
        (try (refine let_m F' ?_; clear F'; intro m9q F'm))
        k_steps
        rename (KBw.bInts _ = List.take (m1 - _).toNat _) => e9
        refine' LCg.CompEnd.intro ?lpF ?lpN _ ?lpa ?lpo ?lps ⟨(), rfl, ?_⟩
        (case lpF => k_asm)
        (case lpN => k_asm)
        (case lpa => kcf_all)
        (case lpo => first | assumption | (simp only [LCg.Off3, and_true]; done) | (simp only [LCg.Off3, and_true]; assumption))
        (case lps => first | trivial | assumption | lcg_src | exact (Or.inr ⟨_, List.mem_cons_self, rfl, _, rfl⟩))
        exact hJ.snoc (e9.trans s3)
      · (try k_fold)
        (try (refine let_m F' ?_; clear F'; intro m9q F'm))
        k_steps
        rename (KBw.bInts _ = List.take (m2 - _).toNat _) => e9
        refine' LCg.CompEnd.intro ?lpF ?lpN _ ?lpa ?lpo ?lps ⟨(), rfl, ?_⟩
        (case lpF => k_asm)
        (case lpN => k_asm)
        (case lpa => kcf_all)
        (case lpo => first | assumption | (simp only [LCg.Off3, and_true]; done) | (simp only [LCg.Off3, and_true]; assumption))
        (case lps => first | trivial | assumption | lcg_src | exact (Or.inr ⟨_, List.mem_cons_self, rfl, _, rfl⟩))
        exact hJ.snoc (e9.trans s4)
      · (try k_fold)
        (try (refine let_m F' ?_; clear F'; intro m9q F'm))
        k_steps
        rename (KBw.bInts _ = List.take (m3 - _).toNat _) => e9
        refine' LCg.CompEnd.intro ?lpF ?lpN _ ?lpa ?lpo ?lps ⟨(), rfl, ?_⟩
        (case lpF => k_asm)
        (case lpN => k_asm)
        (case lpa => kcf_all)
        (case lpo => first | assumption | (simp only [LCg.Off3, and_true]; done) | (simp only [LCg.Off3, and_true]; assumption))
        (case lps => first | trivial | assumption | lcg_src | exact (Or.inr ⟨_, List.mem_cons_self, rfl, _, rfl⟩))
        exact hJ.snoc (e9.trans s5)
    · intro g ys hJ
      obtain ⟨_, _, _, _, _, _, rfl, f1, f2, f3⟩ := ba3 hJ
      (try k_fold)
      (try (refine let_m F' ?_; clear F'; intro m9q F'm))
      k_steps
      refine' hret _ _ _ _ _ _ _ _ _ _ _ f1 f2 f3 q4.symm ?cF ?cN ?cO
      (case cF => k_asm)
      (case cN => first | k_asm | (refine' cb_drop ?cbN ?cbS; (case cbN => assumption); (case cbS => kcj_all)))
      (case cO => (rename (_ < _ ∧ _ < _ ∧ _ < _ ∧ _ < _ ∧ AllLt _ _) => h9; exact off1_lt (allLt_mem _ h9.2.2.2.2)))
theorem layW23 : True := by
  k_with "my call ref" => ((k_here; (with_reducible show wpAny _ _ (PySem.call (Value.ref 309) _) _ _ _); k_dflt (refine' called (word_parts_at _ _ _ _ _ _ _ _ _ (by kba_ints) (by omega) (by with_reducible assumption)) ?kBZ9 ?kFZ9 ?kXZ9 ?kNZ9 ?kTZ9 ?kKZ9 ?kDZ9 ?kUZ9 ?_; (case kBZ9 | kFZ9 | kXZ9 | kNZ9 | kTZ9 => k_asm); (case kKZ9 => first | exact rfl | assumption); (case kDZ9 => ktr_room); (case kUZ9 => ktr_units)); intro T'q b1'q b2'q b3'q t1'q t2'q t3'q t4'q y'q h'q tk'q kb1'q kb2'q kb3'q hy'q F'q N'q o1'q; (try simp only [LCg.Off1, and_true] at o1'q)))
  exact True.intro

def ofI (ks : List Int) : Str := ⟨(ks.map Int.toNat).toArray⟩
theorem ofI_txI (z : Str) : ofI (txI z) = z := by
  unfold ofI txI
  rw [List.map_map]
  have : (Int.toNat ∘ Int.ofNat) = id := by funext n; rfl
  rw [this, List.map_id]
theorem txI_inj {a b : Str} (h : txI a = txI b) : a = b := by rw [← ofI_txI a, ← ofI_txI b, h]
theorem join_txI : ∀ ys : List Str, txI (Txt.join (Str.ofString "") ys) = (ys.map txI).flatten
  | [] => rfl
  | [a] => by
    show txI (PySem.Builtin.Str.glued _ [a]) = _
    rw [StrLaws.glued_eq_join]
    show txI a = _
    simp
  | a :: b :: r => by
    have ih := join_txI (b :: r)
    have e : Txt.join (Str.ofString "") (a :: b :: r) = a ++ Str.ofString "" ++ Txt.join (Str.ofString "") (b :: r) := by
      show PySem.Builtin.Str.glued _ _ = _ ++ PySem.Builtin.Str.glued _ _
      rw [StrLaws.glued_eq_join, StrLaws.glued_eq_join]; rfl
    rw [e, txI_app, txI_app, ih, List.map_cons, List.flatten_cons]
    have : txI (Str.ofString "") = [] := by decide +kernel
    rw [this, List.append_nil]; simp
theorem s_join {prog : Program} {w : World} {A : Around} {E : Value → Shared → Prop} {s : Shared} {D : Addr} {vs : List Value} {ys : List Str} {t : Tok} {Q : Value → Shared → Prop} (hl : s.heap.IsList D vs.toArray) (hi : StrsAre vs ys) (hok : (ys.map (·.length)).sum + ys.length * 64 ≤ 16777216)
    (h : ∀ z t' k, txI z = (ys.map txI).flatten → Q (.str z t') { s with toks := k }) : wpAny (model prog w) A (call (.builtin "str.join") [.str (Str.ofString "") t, .ref D]) Q E s :=
  join_listC hl (by simpa using hi) (by decide +kernel) hok fun t' k => h _ t' k (join_txI ys)
theorem is_apart_at (w : World) (news : List (Addr × Obj)) (b : Array UInt8) (ks : List Int) (t t' t2 : Tok) (y : Int) (hb : KBw.bInts b = ks) (hn : ks.length ≤ 4000) (hy : y = ks.length) : CG w 1 316 [.bytes b t, .int 0 t', .int y t2] news (RO news true) := by
  w_top off
  intro mean mg mb dp un gd cn cs a ccd cl outer A₀ base h₀ L m s Q E B F X N T hk hd hu hret
  refine wpAny_call ?_
  k_dflt cell_enter
  (try (refine let_AE ?_; intro A9q e9q)); (try ((with_reducible rename Fr _ _ _ _ => F9q); refine let_m F9q ?_; clear F9q; intro m9q F'))
  (try k_fold)
  k_steps
  · skip
    refine' gBool (Q := Q) hret ?_ ?cF ?cN
    (case cF => k_asm)
    (case cN => first | k_asm | (refine' cb_drop ?cbN ?cbS; (case cbN => assumption); (case cbS => kcj_all)))
    simpa using hy
  all_goals exact absurd hy (by assumption)
theorem strs_snoc {vs : List Value} {ys : List Str} (h : StrsAre vs ys) (y : Str) (t : Tok) : StrsAre (vs ++ [.str y t]) (ys ++ [y]) := h.append' (.cons _ _ .nil)
theorem ones_flat (ks : List Int) : ((ks.map fun k => (⟨#[k.toNat]⟩ : Str)).map txI).flatten = ks.map fun k => (k.toNat : Int) := by
  induction ks with
  | nil => rfl
  | cons k r ih => rw [List.map_cons, List.map_cons, List.flatten_cons, ih]; rfl
theorem ones_sum (ks : List Int) : ((ks.map fun k => (⟨#[k.toNat]⟩ : Str)).map (·.length)).sum = ks.length := by
  induction ks with
  | nil => rfl
  | cons k r ih => rw [List.map_cons, List.map_cons, List.sum_cons, ih, List.length_cons]; show 1 + _ = _; omega
theorem ofI_ones {z : Str} {ks : List Int} (h : txI z = ks.map fun k => (k.toNat : Int)) : z = ofI ks := by
  rw [← ofI_txI z, h]; unfold ofI; rw [List.map_map]; rfl
theorem plain_text_at (w : World) (news : List (Addr × Obj)) (b : Array UInt8) (ks : List Int) (t : Tok) (hb : KBw.bInts b = ks) (hn : ks.length ≤ 4000) : CG w 1 321 [.bytes b t] news (RS news (ofI ks)) := by
  w_top off
  intro mean mg mb dp un gd cn cs a ccd cl outer A₀ base h₀ L m s Q E B F X N T hk hd hu hret
  refine wpAny_call ?_
  k_dflt cell_enter
  (try (refine let_AE ?_; intro A9q e9q)); (try ((with_reducible rename Fr _ _ _ _ => F9q); refine let_m F9q ?_; clear F9q; intro m9q F'))
  have hMC : MyComp := True.intro
  have hmkW31 : OwnW := True.intro
  k_with "pyIter bytes" => (guard_hyp hmkW31; k_dflt (refine' cpU_bytes (σ := Unit) (fun _ => news) (fun i _ ys => StrsAre ys ((ks.take i).map fun k => ⟨#[k.toNat]⟩)) () hb rfl (by omega) (by k_asm) (by k_asm) .nil ?_ ?_))
  (try k_fold)
  k_steps
  · intro i k t c ys I oI C oC D m₂ h1 tk E' hi h0 h1 hJ hC hx F' N' off ne
    (try k_fold)
    k_steps
    refine' LCg.CompEnd.intro ?lpF ?lpN (news) ?lpa ?lpo ?lps ⟨(), rfl, ?_⟩
    (case lpF => k_asm)
    (case lpN => k_asm)
    (case lpa => kcf_all)
    (case lpo => first | assumption | (simp only [LCg.Off3, and_true]; done) | (simp only [LCg.Off3, and_true]; assumption))
    (case lps => first | trivial | assumption | lcg_src)
    rw [List.take_add_one, hi, Option.toList_some, List.map_append]
    exact strs_snoc hJ _ _
  · intro g c ys hJ
    rw [List.take_length] at hJ
    (try k_fold)
    k_steps
    k_dflt (refine' s_join (by is_list) hJ ?_ ?_)
    · rw [ones_sum, List.length_map]; omega
    · intro z t' k' hz
      rw [ones_flat] at hz
      (try k_fold)
      k_steps
      refine' gStr (Q := Q) hret ?_ ?cF ?cN
      (case cF => k_asm)
      (case cN => first | k_asm | (refine' cb_drop ?cbN ?cbS; (case cbN => assumption); (case cbS => kcj_all)))
      exact ofI_ones hz
theorem layW31 : True := by
  k_with "my call ref" => ((k_here; (with_reducible show wpAny _ _ (PySem.call (Value.ref 321) _) _ _ _); k_dflt (refine' called (plain_text_at _ _ _ _ _ (by kba_ints) (by omega)) ?kBZ9 ?kFZ9 ?kXZ9 ?kNZ9 ?kTZ9 ?kKZ9 ?kDZ9 ?kUZ9 ?_; (case kBZ9 | kFZ9 | kXZ9 | kNZ9 | kTZ9 => k_asm); (case kKZ9 => first | exact rfl | assumption); (case kDZ9 => ktr_room); (case kUZ9 => ktr_units)); intro t'q h'q tk'q F'q N'q))
  exact True.intro

def lowc (c : Int) : Int := if 65 ≤ c ∧ c ≤ 90 then c + 32 else c
theorem lower_code_at (w : World) (news : List (Addr × Obj)) (c : Int) (t : Tok) : CG w 1 110 [.int c t] news (RI news (lowc c)) := by
  unfold lowc
  have hmkW4 : OwnW := True.intro
  w_top off
  intro mean mg mb dp un gd cn cs a ccd cl outer A₀ base h₀ L m s Q E B F X N T hk hd hu hret
  refine wpAny_call ?_
  k_dflt cell_enter
  (try (refine let_AE ?_; intro A9q e9q)); (try ((with_reducible rename Fr _ _ _ _ => F9q); refine let_m F9q ?_; clear F9q; intro m9q F'))
  (try k_fold)
  k_steps
  all_goals
    refine' gInt (Q := Q) hret ?_ ?cF ?cN
    (case cF => k_asm)
    (case cN => first | k_asm | (refine' cb_drop ?cbN ?cbS; (case cbN => assumption); (case cbS => kcj_all)))
    (repeat' split) <;> omega
theorem layW41 : True := by
  k_with "my call ref" => ((k_here; (with_reducible show wpAny _ _ (PySem.call (Value.ref 110) _) _ _ _); k_dflt (refine' called (lower_code_at _ _ _ _) ?kBZ9 ?kFZ9 ?kXZ9 ?kNZ9 ?kTZ9 ?kKZ9 ?kDZ9 ?kUZ9 ?_; (case kBZ9 | kFZ9 | kXZ9 | kNZ9 | kTZ9 => k_asm); (case kKZ9 => first | exact rfl | assumption); (case kDZ9 => ktr_room); (case kUZ9 => ktr_units)); intro t'q h'q tk'q F'q N'q))
  exact True.intro
theorem lower_text_at (w : World) (news : List (Addr × Obj)) (z : Str) (t : Tok) (hn : z.length ≤ 4000) (hz : ∀ c ∈ txI z, c < 1000000) : CG w 2 115 [.str z t] news (RS news (ofI ((txI z).map lowc))) := by
  have hmkW4 : OwnW := True.intro
  w_top off
  intro mean mg mb dp un gd cn cs a ccd cl outer A₀ base h₀ L m s Q E B F X N T hk hd hu hret
  refine wpAny_call ?_
  k_dflt cell_enter
  (try (refine let_AE ?_; intro A9q e9q)); (try ((with_reducible rename Fr _ _ _ _ => F9q); refine let_m F9q ?_; clear F9q; intro m9q F'))
  have hMC : MyComp := True.intro
  have hmkW41 : OwnW := True.intro
  k_with "pyIter str" => (guard_hyp hmkW41; k_dflt (refine' cpU_str (σ := Unit) (fun _ => news) (fun i _ ys => StrsAre ys (((txI z).take i).map fun k => ⟨#[(lowc k).toNat]⟩)) () rfl (by show Str.length _ ≤ _; omega) (by k_asm) (by k_asm) .nil ?_ ?_))
  (try k_fold)
  k_steps
  · intro i k t c ys I oI C oC D m₂ h1 tk E' hi hJ hC hx F' N' off ne
    have hk := str_at hi
    have hk1 := hz _ (List.mem_of_getElem? hk)
    have hl1 : 0 ≤ lowc k ∧ lowc k ≤ 1000032 := by unfold lowc; split <;> omega
    (try k_fold)
    k_steps
    refine' LCg.CompEnd.intro ?lpF ?lpN (news) ?lpa ?lpo ?lps ⟨(), rfl, ?_⟩
    (case lpF => k_asm)
    (case lpN => k_asm)
    (case lpa => kcf_all)
    (case lpo => first | assumption | (simp only [LCg.Off3, and_true]; done) | (simp only [LCg.Off3, and_true]; assumption))
    (case lps => first | trivial | assumption | lcg_src)
    rw [List.take_add_one, hk, Option.toList_some, List.map_append]
    exact strs_snoc hJ _ _
  · intro g c ys hJ
    rw [full_take] at hJ
    have e9 : ((txI z).map fun k => (⟨#[(lowc k).toNat]⟩ : Str)) = ((txI z).map lowc).map fun k => (⟨#[k.toNat]⟩ : Str) := by rw [List.map_map]; rfl
    rw [e9] at hJ
    (try k_fold)
    k_steps
    k_dflt (refine' s_join (by is_list) hJ ?_ ?_)
    · rw [ones_sum, List.length_map, List.length_map, List.length_map, txI_len]; omega
    · intro z t' k' hz
      rw [ones_flat] at hz
      (try k_fold)
      k_steps
      refine' gStr (Q := Q) hret ?_ ?cF ?cN
      (case cF => k_asm)
      (case cN => first | k_asm | (refine' cb_drop ?cbN ?cbS; (case cbN => assumption); (case cbS => kcj_all)))
      exact ofI_ones hz
theorem layW42 : True := by
  k_with "my exec For Name Tuple cons nil" => ((guard_hyp hmkW4); (k_here; (with_reducible rename Fr _ _ _ _ => lF'q); (with_reducible refine' For_invVF ?kFZ9 ?k1Z9 ?k2Z9 ?_ ?ksZ9 ?kEZ9); (case kFZ9 => k_dflt (exact lF'q)); (case k1Z9 => k_dflt (exact rfl)); (case k2Z9 => k_dflt (exact rfl)); (case ksZ9 => k_dflt (intro _; rfl)); (case kEZ9 => k_dflt passes_own); k_whole))
  exact True.intro

section
variable {prog : Program} {w : World} {A : Around} {E : Value → Shared → Prop} {s : Shared} {env : Env} {h₀ : Heap} {x : Str} {body : List Stmt} {Q : Flow → Shared → Prop} {σ : Type} {m₀ : Str → Option Value}
theorem lp_tup {ax : Addr} {its : Array Value} {oT : Obj} {nw : List (Addr × Obj)} (led : σ → List (Addr × Obj)) (ps : σ → List (Str × Value)) (stored : List Str) (J : Nat → σ → Prop) (c₀ : σ)
    (hh : A.handled = none) (F : Fr h₀ env.locals s.heap m₀) (N0 : News h₀ env.locals s.heap ((ax, oT) :: nw)) (hc : oT.cls = .type "tuple") (hd : ∃ n, oT.data = .seq its n) (hled : led c₀ = nw) (off : ∀ q ∈ nw, q.1 ≠ ax) (hk : ∀ p ∈ ps c₀, m₀ p.1 = some p.2) (hj : J 0 c₀)
    (turn : Hold (∀ (i : Nat) (v : Value) (c : σ) (u : Str → Option Value) h tk own, its[i]? = some v → OwnOff own ((led c₀).map (·.1)) → J i c →
      Fr h₀ env.locals h (fun y => if y = x then some v else kstB (fun z => if stored.contains z then u z else m₀ z) (ps c) y) → News h₀ env.locals h (led c ++ own) →
      wpAny (model prog w) A (execs body env) (InvPostN h₀ env.locals (LpS led ps x stored m₀ (J (i + 1))) own ((led c₀).map (·.1)) { s with heap := h, toks := tk } Q) E { s with heap := h, toks := tk }))
    (done : Hold (∀ (c : σ) (u : Str → Option Value) h tk, J its.size c → Fr h₀ env.locals h (fun y => if y = x then u y else kstB (fun z => if stored.contains z then u z else m₀ z) (ps c) y) → News h₀ env.locals h (led c) → Q .next { s with heap := h, toks := tk })) :
    wpAny (model prog w) A (pyIter (.ref ax)) (fun it s₂ => LoopAtV prog w A h₀ env x body Q E it s₂) E s := by
  have hl : s.heap.IsTuple ax its := ⟨oT, (N0 _ (.head _)).1, hc, hd⟩
  have hlt : ax < s.heap.objs.size := by obtain ⟨_, e, _⟩ := hl; exact Heap.lt_size e
  have N : News h₀ env.locals s.heap (led c₀) := fun p hp => N0 p (.tail _ (hled ▸ hp))
  refine wpAny_pyIter_tuple hl ?_
  refine lp_core led ps stored J c₀ (Walks.tuple (prog := prog) (w := w) hh s.heap.objs.size ax (Nat.ne_of_lt hlt) its) ?_ ?_ ?_ ?_ ⟨⟨_, Heap.get?_push_size _ rfl, rfl, rfl⟩, hl.push _⟩ (F.push _) (fun p hp => ⟨Heap.get?_push_of_some _ (N p hp).1, (N p hp).2⟩) hk hj ?_ ?_
  · intro hm
    rcases List.mem_cons.mp hm with z | hm
    · exact absurd F.ns.lt (z ▸ Nat.lt_irrefl _)
    · exact (N0 _ (.head _)).2.1 (List.mem_singleton.mp hm).symm
  · intro b' hb'; rw [List.mem_singleton.mp hb']; exact next_is_new F
  · intro p hp hI; exact absurd (Heap.lt_size (N p hp).1) ((List.mem_singleton.mp hI) ▸ Nat.lt_irrefl _)
  · intro p hp hI
    rcases List.mem_cons.mp hI with z | hm
    · exact absurd (Heap.lt_size (N p hp).1) (z ▸ Nat.lt_irrefl _)
    · exact off p (hled ▸ hp) (List.mem_singleton.mp hm)
  · rintro i v c u h tk own hi hv hoff hJ F₁ N₁
    exact turn i v c u h tk own hv hoff hJ F₁ N₁
  · intro c u h tk hJ F₁ N₁
    exact done c u h tk hJ F₁ N₁
end
theorem strs_item {its : Array Value} {al : List Str} {i : Nat} {v : Value} (h : StrsAre its.toList al) (e : its[i]? = some v) : ∃ y t, v = .str y t ∧ al[i]? = some y := StrsAre.item h i v (by simpa using e)
theorem layW43 : True := by
  k_with "my setItem ref str" => ((k_here; k_dflt (refine' kda_set (knd := PySem.strKind _ _) ?FZ9 ?NZ9 ?UZ9 ?dZ9 (strKind_is _ _ _ _) ?zZ9 ?_; (case FZ9 => k_asm); (case NZ9 => k_asm); (case UZ9 => k_updF); (case dZ9 => k_asm); (case zZ9 => (rw [sizeLine_eq]; omega))); intro h'q o'q F'q N'q hd'q; (try dsimp only at N'q)))
  k_with "my setItem ref int" => ((k_here; k_dflt (refine' kda_set (knd := PySem.intKind _ _) ?FZ9 ?NZ9 ?UZ9 ?dZ9 (intKind_is _ _ _ _) ?zZ9 ?_; (case FZ9 => k_asm); (case NZ9 => k_asm); (case UZ9 => k_updF); (case dZ9 => k_asm); (case zZ9 => (rw [sizeLine_eq]; omega))); intro h'q o'q F'q N'q hd'q; (try dsimp only at N'q)))
  exact True.intro
/-- a table filled with one value -/
def fillS (kvs : List (Str × Value)) (al : List Str) (v : Value) : List (Str × Value) := al.foldl (fun m y => stored m y v) kvs
theorem fillS_snoc (kvs : List (Str × Value)) (al : List Str) (y : Str) (v : Value) : fillS kvs (al ++ [y]) v = stored (fillS kvs al v) y v := by unfold fillS; rw [List.foldl_append]; rfl
theorem fillS_len (v : Value) : ∀ (al : List Str) (kvs : List (Str × Value)), (fillS kvs al v).length ≤ kvs.length + al.length
  | [], _ => Nat.le_refl _
  | y :: r, kvs => by
    have := fillS_len v r (stored kvs y v)
    have h2 : (stored kvs y v).length ≤ kvs.length + 1 := by unfold stored; split <;> simp
    show (fillS (stored kvs y v) r v).length ≤ _
    rw [List.length_cons]; omega
def al1 : List Str := ["us-ascii", "ascii", "ansi_x3.4-1968", "iso_646.irv:1991", "iso-ir-6", "iso646-us", "us", "cp367", "ibm367"].map Str.ofString
def al2 : List Str := ["iso-8859-1", "iso_8859-1", "iso_8859-1:1987", "iso-ir-100", "latin1", "l1", "cp819", "ibm819"].map Str.ofString
def al3 : List Str := ["utf-8", "utf8"].map Str.ofString
def CN : List (Str × Value) := fillS (fillS (fillS [] al1 (.str cA 332)) al2 (.str cL 334)) al3 (.str cU 336)
abbrev RCN (w : World) (news : List (Addr × Obj)) : Cont := fun h₀ L m s Q _ => ∀ (d : Addr) (o : Obj) (h' : Heap) (tk' : Nat), o.IsDictOf (PySem.strKind Prg w) CN → (d == sysModules) = false → Fr h₀ L h' m → News h₀ L h' ((d, o) :: news) → LCg.Off1 d news → Q (.ref d) { s with heap := h', toks := tk' }
theorem charset_names_at (w : World) (news : List (Addr × Obj)) : CG w 1 123 [] news (RCN w news) := by
  have hmkW4 : OwnW := True.intro
  w_top off
  intro mean mg mb dp un gd cn cs a ccd cl outer A₀ base h₀ L m s Q E B F X N T hk hd hu hret
  refine wpAny_call ?_
  k_dflt cell_enter
  (try (refine let_AE ?_; intro A9q e9q)); (try ((with_reducible rename Fr _ _ _ _ => F9q); refine let_m F9q ?_; clear F9q; intro m9q F'))
  have hmkW42 : OwnW := True.intro
  k_with "pyIter ref" => (guard_hyp hmkW42; k_dflt (refine' (id : Hold _ → _) ?_))
  (try k_fold)
  k_steps
  rename News _ _ _ ((_, ({ cls := _, data := Data.seq _ } : Obj)) :: (_, _) :: news) => NN
  rename Obj.IsDictOf (PySem.strKind _ _) _ [] => hd0
  show wpAny _ _ _ _ _ _
  k_dflt (refine' lp_tup (σ := Obj) (fun c => (_, c) :: news) (fun _ => []) [] (fun i c => c.IsDictOf (PySem.strKind Prg w) (fillS [] (al1.take i) (.str cA 332))) _ rfl (by k_asm) NN rfl ⟨_, rfl⟩ rfl ?_ (fun _ hp => nomatch hp) hd0 ?_ ?_)
  · first | (rename (_ < _ ∧ AllLt _ _) => h9; exact all_ne_lt (show AllLt _ (_ :: _) from h9)) | (rename News _ _ _ ((_, _) :: news) => NK; intro p hp; exact Nat.ne_of_lt (Heap.lt_size (NK p hp).1))
  · rintro i v c u h1 tk2 own hv hoff hJ F' N'
    obtain ⟨y9, t9, rfl, hy9⟩ := strs_item (al := al1) (by repeat constructor) hv
    have hz9 := fillS_len (.str cA 332) (al1.take i) []
    have hz8 : (al1.take i).length ≤ 9 := by rw [List.length_take]; exact Nat.min_le_right _ _
    have hz7 : ([] : List (Str × Value)).length ≤ 0 := by decide +kernel
    simp only [List.cons_append] at N'
    (try k_fold)
    (try (refine let_m F' ?_; clear F'; intro m9q F'm))
    k_steps
    refine' lp_end _ ?lpF ?lpN ?lpn ?lpo ?lpa ?lpk ?lpr ?_
    (case lpF => k_asm)
    (case lpN => k_asm)
    (case lpn => kcf_all)
    (case lpo => kcf_all)
    (case lpa => exact rfl)
    (case lpk => first | exact List.forall_mem_nil _ | kst_all)
    (case lpr => (intro z9 h91 h92 h93; first | ((repeat (with_reducible refine lz_cond ?n9 ?_; (case n9 => first | exact h91 | exact lz_sto h93 rfl | exact lz_ps h92 rfl))); refine' (lz_off ?n9).trans ?_; (case n9 => first | exact lz_all h92 rfl | exact List.forall_mem_nil _); exact if_neg (lz_ns h93)) | ((try simp only [List.mem_cons, List.not_mem_nil, or_false, forall_eq, forall_eq_or_imp] at h92); first | (simp only [h91, if_false, kstB]; done) | (simp [kstB, h91, h92]; done) | (simp_all [kstB]; done))))
    rw [List.take_add_one, hy9, Option.toList_some, fillS_snoc]; assumption
  · rintro c u h1 tk2 hd1 F' N'
    replace hd1 : c.IsDictOf (PySem.strKind Prg w) (fillS [] al1 (.str cA 332)) := hd1
    (try k_fold)
    (try (refine let_m F' ?_; clear F'; intro m9q F'm))
    k_steps
    rename News _ _ _ ((_, ({ cls := _, data := Data.seq _ } : Obj)) :: (_, _) :: news) => NN
    show wpAny _ _ _ _ _ _
    k_dflt (refine' lp_tup (σ := Obj) (fun c => (_, c) :: news) (fun _ => []) [] (fun i c => c.IsDictOf (PySem.strKind Prg w) (fillS (fillS [] al1 (.str cA 332)) (al2.take i) (.str cL 334))) _ rfl (by k_asm) NN rfl ⟨_, rfl⟩ rfl ?_ (fun _ hp => nomatch hp) hd1 ?_ ?_)
    · first | (rename (_ < _ ∧ AllLt _ _) => h9; exact all_ne_lt (show AllLt _ (_ :: _) from h9)) | (rename News _ _ _ ((_, _) :: news) => NK; intro p hp; exact Nat.ne_of_lt (Heap.lt_size (NK p hp).1))
    · rintro i v c u h1 tk2 own hv hoff hJ F' N'
      obtain ⟨y9, t9, rfl, hy9⟩ := strs_item (al := al2) (by repeat constructor) hv
      have hz9 := fillS_len (.str cL 334) (al2.take i) (fillS [] al1 (.str cA 332))
      have hz8 : (al2.take i).length ≤ 8 := by rw [List.length_take]; exact Nat.min_le_right _ _
      have hz7 : ((fillS [] al1 (.str cA 332)) : List (Str × Value)).length ≤ 9 := by decide +kernel
      simp only [List.cons_append] at N'
      (try k_fold)
      (try (refine let_m F' ?_; clear F'; intro m9q F'm))
      k_steps
      refine' lp_end _ ?lpF ?lpN ?lpn ?lpo ?lpa ?lpk ?lpr ?_
      (case lpF => k_asm)
      (case lpN => k_asm)
      (case lpn => kcf_all)
      (case lpo => kcf_all)
      (case lpa => exact rfl)
      (case lpk => first | exact List.forall_mem_nil _ | kst_all)
      (case lpr => (intro z9 h91 h92 h93; first | ((repeat (with_reducible refine lz_cond ?n9 ?_; (case n9 => first | exact h91 | exact lz_sto h93 rfl | exact lz_ps h92 rfl))); refine' (lz_off ?n9).trans ?_; (case n9 => first | exact lz_all h92 rfl | exact List.forall_mem_nil _); exact if_neg (lz_ns h93)) | ((try simp only [List.mem_cons, List.not_mem_nil, or_false, forall_eq, forall_eq_or_imp] at h92); first | (simp only [h91, if_false, kstB]; done) | (simp [kstB, h91, h92]; done) | (simp_all [kstB]; done))))
      rw [List.take_add_one, hy9, Option.toList_some, fillS_snoc]; assumption
    · rintro c u h1 tk2 hd2 F' N'
      replace hd2 : c.IsDictOf (PySem.strKind Prg w) (fillS (fillS [] al1 (.str cA 332)) al2 (.str cL 334)) := hd2
      (try k_fold)
      (try (refine let_m F' ?_; clear F'; intro m9q F'm))
      k_steps
      rename News _ _ _ ((_, ({ cls := _, data := Data.seq _ } : Obj)) :: (_, _) :: news) => NN
      show wpAny _ _ _ _ _ _
      k_dflt (refine' lp_tup (σ := Obj) (fun c => (_, c) :: news) (fun _ => []) [] (fun i c => c.IsDictOf (PySem.strKind Prg w) (fillS (fillS (fillS [] al1 (.str cA 332)) al2 (.str cL 334)) (al3.take i) (.str cU 336))) _ rfl (by k_asm) NN rfl ⟨_, rfl⟩ rfl ?_ (fun _ hp => nomatch hp) hd2 ?_ ?_)
      · first | (rename (_ < _ ∧ AllLt _ _) => h9; exact all_ne_lt (show AllLt _ (_ :: _) from h9)) | (rename News _ _ _ ((_, _) :: news) => NK; intro p hp; exact Nat.ne_of_lt (Heap.lt_size (NK p hp).1))
      · rintro i v c u h1 tk2 own hv hoff hJ F' N'
        obtain ⟨y9, t9, rfl, hy9⟩ := strs_item (al := al3) (by repeat constructor) hv
        have hz9 := fillS_len (.str cU 336) (al3.take i) (fillS (fillS [] al1 (.str cA 332)) al2 (.str cL 334))
        have hz8 : (al3.take i).length ≤ 2 := by rw [List.length_take]; exact Nat.min_le_right _ _
        have hz7 : ((fillS (fillS [] al1 (.str cA 332)) al2 (.str cL 334)) : List (Str × Value)).length ≤ 17 := by decide +kernel
        simp only [List.cons_append] at N'
        (try k_fold)
        (try (refine let_m F' ?_; clear F'; intro m9q F'm))
        k_steps
        refine' lp_end _ ?lpF ?lpN ?lpn ?lpo ?lpa ?lpk ?lpr ?_
        (case lpF => k_asm)
        (case lpN => k_asm)
        (case lpn => kcf_all)
        (case lpo => kcf_all)
        (case lpa => exact rfl)
        (case lpk => first | exact List.forall_mem_nil _ | kst_all)
        (case lpr => (intro z9 h91 h92 h93; first | ((repeat (with_reducible refine lz_cond ?n9 ?_; (case n9 => first | exact h91 | exact lz_sto h93 rfl | exact lz_ps h92 rfl))); refine' (lz_off ?n9).trans ?_; (case n9 => first | exact lz_all h92 rfl | exact List.forall_mem_nil _); exact if_neg (lz_ns h93)) | ((try simp only [List.mem_cons, List.not_mem_nil, or_false, forall_eq, forall_eq_or_imp] at h92); first | (simp only [h91, if_false, kstB]; done) | (simp [kstB, h91, h92]; done) | (simp_all [kstB]; done))))
        rw [List.take_add_one, hy9, Option.toList_some, fillS_snoc]; assumption
      · rintro c u h1 tk2 hd3 F' N'
        replace hd3 : c.IsDictOf (PySem.strKind Prg w) (fillS (fillS (fillS [] al1 (.str cA 332)) al2 (.str cL 334)) al3 (.str cU 336)) := hd3
        (try k_fold)
        (try (refine let_m F' ?_; clear F'; intro m9q F'm))
        k_steps
        refine' hret _ _ _ _ hd3 ?cL ?cF ?cN ?cO
        (case cL => assumption)
        (case cF => k_asm)
        (case cN => first | k_asm | (refine' cb_drop ?cbN ?cbS; (case cbN => assumption); (case cbS => kcj_all)))
        (case cO => first | exact off1_lt (allLt_mem _ (by assumption)) | exact off1_lt (by assumption))

theorem lower_cs {w : World} {news : List (Addr × Obj)} {chs : Str} {t : Tok} (hcs : chs = cA ∨ chs = cL ∨ chs = cU) : CG w 2 115 [.str chs t] news (RS news chs) := by
  have h := cs_len hcs
  have e : ofI ((txI chs).map lowc) = chs := by rcases hcs with rfl | rfl | rfl <;> decide +kernel
  have := lower_text_at w news chs t (by omega) (fun c hc => by have := h.2 c hc; omega)
  rwa [e] at this
theorem CN_val {chs : Str} (hcs : chs = cA ∨ chs = cL ∨ chs = cU) : ∃ t, valueAt CN chs = some (.str chs t) := by
  rcases hcs with rfl | rfl | rfl
  · exact ⟨332, by decide +kernel⟩
  · exact ⟨334, by decide +kernel⟩
  · exact ⟨336, by decide +kernel⟩
theorem layW51 : True := by
  k_with "my call ref" => ((k_here; (with_reducible show wpAny _ _ (PySem.call (Value.ref 123) _) _ _ _); k_dflt (refine' called (charset_names_at _ _) ?kBZ9 ?kFZ9 ?kXZ9 ?kNZ9 ?kTZ9 ?kKZ9 ?kDZ9 ?kUZ9 ?_; (case kBZ9 | kFZ9 | kXZ9 | kNZ9 | kTZ9 => k_asm); (case kKZ9 => first | exact rfl | assumption); (case kDZ9 => ktr_room); (case kUZ9 => ktr_units)); intro D'q o'q h'q tk'q hd'q lo'q F'q N'q o1'q; (try simp only [LCg.Off1, and_true] at o1'q)))
  k_with "my call ref" => ((k_here; (with_reducible show wpAny _ _ (PySem.call (Value.ref 115) _) _ _ _); k_dflt (refine' called (lower_cs (by with_reducible assumption)) ?kBZ9 ?kFZ9 ?kXZ9 ?kNZ9 ?kTZ9 ?kKZ9 ?kDZ9 ?kUZ9 ?_; (case kBZ9 | kFZ9 | kXZ9 | kNZ9 | kTZ9 => k_asm); (case kKZ9 => first | exact rfl | assumption); (case kDZ9 => ktr_room); (case kUZ9 => ktr_units)); intro t'q h'q tk'q F'q N'q))
  exact True.intro
theorem charset_name_at (w : World) (news : List (Addr × Obj)) (chs : Str) (t : Tok) (hcs : chs = cA ∨ chs = cL ∨ chs = cU) : CG w 4 130 [.str chs t] news (RS news chs) := by
  obtain ⟨tv, hv⟩ := CN_val hcs
  w_top off
  intro mean mg mb dp un gd cn cs a ccd cl outer A₀ base h₀ L m s Q E B F X N T hk hd hu hret
  refine wpAny_call ?_
  k_dflt cell_enter
  (try (refine let_AE ?_; intro A9q e9q)); (try ((with_reducible rename Fr _ _ _ _ => F9q); refine let_m F9q ?_; clear F9q; intro m9q F'))
  (try k_fold)
  k_steps
  k_here
  k_dflt (refine' kdg_get2 (knd := PySem.strKind _ _) ?kN ?kp (by assumption) (by assumption) (strKind_is _ _ _ _) _ hv ?_; (case kN => k_asm); (case kp => k_mem))
  (try k_fold)
  k_steps
  refine' gStr (Q := Q) hret ?_ ?cF ?cN
  (case cF => k_asm)
  (case cN => first | k_asm | (refine' cb_drop ?cbN ?cbS; (case cbN => assumption); (case cbS => kcj_all)))
  rfl
theorem layW52 : True := by
  k_with "my call ref" => ((k_here; (with_reducible show wpAny _ _ (PySem.call (Value.ref 130) _) _ _ _); k_dflt (refine' called (charset_name_at _ _ _ _ (by with_reducible assumption)) ?kBZ9 ?kFZ9 ?kXZ9 ?kNZ9 ?kTZ9 ?kKZ9 ?kDZ9 ?kUZ9 ?_; (case kBZ9 | kFZ9 | kXZ9 | kNZ9 | kTZ9 => k_asm); (case kKZ9 => first | exact rfl | assumption); (case kDZ9 => ktr_room); (case kUZ9 => ktr_units)); intro t'q h'q tk'q F'q N'q))
  k_with "my call ref" => ((k_here; (with_reducible show wpAny _ _ (PySem.call (Value.ref 316) _) _ _ _); k_dflt (refine' called (is_apart_at _ _ _ _ _ _ _ _ (by kba_ints) (by omega) (by omega)) ?kBZ9 ?kFZ9 ?kXZ9 ?kNZ9 ?kTZ9 ?kKZ9 ?kDZ9 ?kUZ9 ?_; (case kBZ9 | kFZ9 | kXZ9 | kNZ9 | kTZ9 => k_asm); (case kKZ9 => first | exact rfl | assumption); (case kDZ9 => ktr_room); (case kUZ9 => ktr_units)); intro h'q tk'q F'q N'q))
  exact True.intro

structure Kp (P : Prop) : Prop where
  out : P
/-- the signs that the law draws, and some more -/
def Sg (c : Int) : Prop := (0 ≤ c ∧ c < 2048) ∨ c = 8364 ∨ c = 128512
theorem Sg.cod {c : Int} (h : Sg c) : Cod c := by
  rcases h with ⟨h0, h1⟩ | rfl | rfl
  · exact Or.inl ⟨h0, Int.lt_trans h1 (by decide)⟩
  · exact Or.inl (by decide)
  · exact Or.inr (by decide)
abbrev RT3I (news : List (Addr × Obj)) (a b n : Int) : Cont := fun h₀ L m s Q _ => ∀ (T : Addr) (t1 t2 t3 : Tok) (h' : Heap) (tk' : Nat), Fr h₀ L h' m → News h₀ L h' ((T, { cls := .type "tuple", data := .seq #[.int a t1, .int b t2, .int n t3] }) :: news) → LCg.Off1 T news → Q (.ref T) { s with heap := h', toks := tk' }
theorem follower2_at (w : World) (news : List (Addr × Obj)) (c : Int) (t : Tok) (h0 : 194 ≤ c) (h1 : c ≤ 223) : CG w 1 156 [.int c t] news (RT3I news 128 191 1) := by
  have hmkW6 : OwnW := True.intro
  w_top off
  intro mean mg mb dp un gd cn cs a ccd cl outer A₀ base h₀ L m s Q E B F X N T hk hd hu hret
  refine wpAny_call ?_
  k_dflt cell_enter
  (try (refine let_AE ?_; intro A9q e9q)); (try ((with_reducible rename Fr _ _ _ _ => F9q); refine let_m F9q ?_; clear F9q; intro m9q F'))
  (try k_fold)
  k_steps
  refine' hret _ _ _ _ _ _ ?cF ?cN ?cO
  (case cF => k_asm)
  (case cN => first | k_asm | (refine' cb_drop ?cbN ?cbS; (case cbN => assumption); (case cbS => kcj_all)))
  (case cO => first | (rename (_ < _ ∧ _ < _ ∧ AllLt _ _) => h9; exact off1_lt (allLt_mem _ h9.2.2)) | exact off1_lt (allLt_mem _ (by assumption)) | exact off1_lt (by assumption))
theorem follower3_at (w : World) (news : List (Addr × Obj)) (c : Int) (t : Tok) (h0 : c = 226) : CG w 1 156 [.int c t] news (RT3I news 128 191 2) := by
  have hmkW6 : OwnW := True.intro
  w_top off
  intro mean mg mb dp un gd cn cs a ccd cl outer A₀ base h₀ L m s Q E B F X N T hk hd hu hret
  refine wpAny_call ?_
  k_dflt cell_enter
  (try (refine let_AE ?_; intro A9q e9q)); (try ((with_reducible rename Fr _ _ _ _ => F9q); refine let_m F9q ?_; clear F9q; intro m9q F'))
  (try k_fold)
  k_steps
  refine' hret _ _ _ _ _ _ ?cF ?cN ?cO
  (case cF => k_asm)
  (case cN => first | k_asm | (refine' cb_drop ?cbN ?cbS; (case cbN => assumption); (case cbS => kcj_all)))
  (case cO => first | (rename (_ < _ ∧ _ < _ ∧ AllLt _ _) => h9; exact off1_lt (allLt_mem _ h9.2.2)) | exact off1_lt (allLt_mem _ (by assumption)) | exact off1_lt (by assumption))
theorem follower4_at (w : World) (news : List (Addr × Obj)) (c : Int) (t : Tok) (h0 : c = 240) : CG w 1 156 [.int c t] news (RT3I news 144 191 3) := by
  have hmkW6 : OwnW := True.intro
  w_top off
  intro mean mg mb dp un gd cn cs a ccd cl outer A₀ base h₀ L m s Q E B F X N T hk hd hu hret
  refine wpAny_call ?_
  k_dflt cell_enter
  (try (refine let_AE ?_; intro A9q e9q)); (try ((with_reducible rename Fr _ _ _ _ => F9q); refine let_m F9q ?_; clear F9q; intro m9q F'))
  (try k_fold)
  k_steps
  refine' hret _ _ _ _ _ _ ?cF ?cN ?cO
  (case cF => k_asm)
  (case cN => first | k_asm | (refine' cb_drop ?cbN ?cbS; (case cbN => assumption); (case cbS => kcj_all)))
  (case cO => first | (rename (_ < _ ∧ _ < _ ∧ AllLt _ _) => h9; exact off1_lt (allLt_mem _ h9.2.2)) | exact off1_lt (allLt_mem _ (by assumption)) | exact off1_lt (by assumption))
/-- what follower_span tells of a lead that heads a sign -/
def Ld (c lo : Int) (n : Nat) : Prop := (194 ≤ c ∧ c ≤ 223 ∧ lo = 128 ∧ n = 1) ∨ (c = 226 ∧ lo = 128 ∧ n = 2) ∨ (c = 240 ∧ lo = 144 ∧ n = 3)
theorem follower_at (w : World) (news : List (Addr × Obj)) (c lo : Int) (n : Nat) (t : Tok) (h : Ld c lo n) : CG w 1 156 [.int c t] news (RT3I news lo 191 n) := by
  rcases h with ⟨h0, h1, rfl, rfl⟩ | ⟨h0, rfl, rfl⟩ | ⟨h0, rfl, rfl⟩
  · exact follower2_at w news c t h0 h1
  · exact follower3_at w news c t h0
  · exact follower4_at w news c t h0
def ShD (n D : Int) : Prop := 0 ≤ n ∧ (64 : Int).fdiv (2 ^ n.toNat) = D
section
variable {prog : Program} {w : World} {A : Around} {E : Value → Shared → Prop} {s : Shared}
theorem rsh64 {n D : Int} {t u : Tok} {Q : Value → Shared → Prop} (hD : ShD n D) (h : Q (.int D s.toks) { s with toks := s.toks + 1 }) : wpAny (model prog w) A (binaryOp .RShift (.int 64 t) (.int n u)) Q E s := rshift_int hD.1 (by rw [hD.2]; exact h)
end
/-- a new tuple of two ints comes back -/
abbrev RT2I (news : List (Addr × Obj)) (a n : Int) : Cont := fun h₀ L m s Q _ => ∀ (T : Addr) (t1 t2 : Tok) (a' n' : Int) (h' : Heap) (tk' : Nat), a' = a → n' = n → Fr h₀ L h' m → News h₀ L h' ((T, { cls := .type "tuple", data := .seq #[.int a' t1, .int n' t2] }) :: news) → LCg.Off1 T news → Q (.ref T) { s with heap := h', toks := tk' }
theorem unr2 {h₀ : Heap} {L I : Addr} {it : Obj} {rest : (Str → Option Value) → List (Addr × Obj) → Prop} {s₁ : Shared} {h' : Heap} {tk : Nat} {m' : Str → Option Value} {d : Addr × Obj} {r : List (Addr × Obj)} (F : Fr h₀ L h' m') (N : News h₀ L h' (d :: (I, it) :: r)) (off : ∀ p ∈ r, p.1 ≠ I) (q : rest m' r) : UnrEnd h₀ L s₁ I it rest { s₁ with heap := h', toks := tk } :=
  UnrEnd.intro F N r (fun p hp => .tail _ hp) off q
theorem utf8_sign1_at (w : World) (news : List (Addr × Obj)) (b : Array UInt8) (ks : List Int) (c i : Int) (t t' : Tok) (hb : KBw.bInts b = ks) (hn : ks.length ≤ 4000) (h0 : 0 ≤ i) (h1 : i < ks.length) (g0 : ks.getD i.toNat 0 = c) (hc : c < 128) : CG w 3 163 [.bytes b t, .int i t'] news (RT2I news c 1) := by
  have hmkW6 : OwnW := True.intro
  w_top off
  intro mean mg mb dp un gd cn cs a ccd cl outer A₀ base h₀ L m s Q E B F X N T hk hd hu hret
  refine wpAny_call ?_
  k_dflt cell_enter
  (try (refine let_AE ?_; intro A9q e9q)); (try ((with_reducible rename Fr _ _ _ _ => F9q); refine let_m F9q ?_; clear F9q; intro m9q F'))
  (try k_fold)
  k_steps
  refine' hret _ _ _ _ _ _ _ g0 rfl ?cF ?cN ?cO
  (case cF => k_asm)
  (case cN => first | k_asm | (refine' cb_drop ?cbN ?cbS; (case cbN => assumption); (case cbS => kcj_all)))
  (case cO => first | exact off1_lt (allLt_mem _ (by assumption)) | exact off1_lt (by assumption))
section
variable {prog : Program} {w : World} {A : Around} {E : Value → Shared → Prop} {s : Shared} {env : Env} {h₀ : Heap} {x : Str} {body : List Stmt} {Q : Flow → Shared → Prop} {σ : Type} {m₀ : Str → Option Value}
theorem lp_rangeC {r : Addr} {a₀ b₀ c₁ : Int} {t₀ u₀ v₀ : Tok} {n : Nat} {nw : List (Addr × Obj)} (ps : σ → List (Str × Value)) (stored : List Str) (J : Nat → σ → Prop) (c₀ : σ)
    (hh : A.handled = none) (hr : IsRange s.heap r a₀ b₀ c₁ t₀ u₀ v₀) (hsmall : Builtin.Range.small a₀ b₀ c₁ = true) (hn : Builtin.Range.rangeSize a₀ b₀ c₁ = (n : Int))
    (F : Fr h₀ env.locals s.heap m₀) (N : News h₀ env.locals s.heap nw) (hk : ∀ p ∈ ps c₀, m₀ p.1 = some p.2) (hj : J 0 c₀)
    (turn : Hold (∀ (i : Nat) (k : Int) (t : Tok) (c : σ) (u : Str → Option Value) h tk own, i < n → k = a₀ + (i : Int) * c₁ → OwnOff own (nw.map (·.1)) → J i c →
      Fr h₀ env.locals h (fun y => if y = x then some (.int k t) else kstB (fun z => if stored.contains z then u z else m₀ z) (ps c) y) → News h₀ env.locals h (nw ++ own) →
      wpAny (model prog w) A (execs body env) (InvPostN h₀ env.locals (LpS (fun _ => nw) ps x stored m₀ (J (i + 1))) own (nw.map (·.1)) { s with heap := h, toks := tk } Q) E { s with heap := h, toks := tk }))
    (done : Hold (∀ (c : σ) (u : Str → Option Value) h tk, J n c → Fr h₀ env.locals h (fun y => if y = x then u y else kstB (fun z => if stored.contains z then u z else m₀ z) (ps c) y) → News h₀ env.locals h nw → Q .next { s with heap := h, toks := tk })) :
    wpAny (model prog w) A (pyIter (.ref r)) (fun it s₂ => LoopAtV prog w A h₀ env x body Q E it s₂) E s :=
  lp_rangeG (fun _ => nw) ps stored J c₀ hh hr hsmall hn F N hk hj turn done
end
/-- the octets that follow a lead, and what the code is after each -/
def Fol (ks : List Int) (i lo c : Int) (n : Nat) (V : Nat → Int) : Prop := V n = c ∧ ∀ j : Nat, j < n → 128 ≤ ks.getD (i + (1 + (j : Int))).toNat 0 ∧ ks.getD (i + (1 + (j : Int))).toNat 0 ≤ 191 ∧ (j = 0 → lo ≤ ks.getD (i + (1 + (j : Int))).toNat 0) ∧ V (j + 1) = V j * 64 + (ks.getD (i + (1 + (j : Int))).toNat 0) % 64 ∧ 0 ≤ V j ∧ V j ≤ 4096
theorem layW61 : True := by
  k_with "my call ref" => ((guard_hyp hmkW6); (k_here; (with_reducible show wpAny _ _ (PySem.call (Value.ref 156) _) _ _ _); k_dflt (refine' called (follower_at _ _ _ _ _ _ (by with_reducible assumption)) ?kBZ9 ?kFZ9 ?kXZ9 ?kNZ9 ?kTZ9 ?kKZ9 ?kDZ9 ?kUZ9 ?_; (case kBZ9 | kFZ9 | kXZ9 | kNZ9 | kTZ9 => k_asm); (case kKZ9 => first | exact rfl | assumption); (case kDZ9 => ktr_room); (case kUZ9 => ktr_units)); intro T'q t1'q t2'q t3'q h'q tk'q F'q N'q o1'q; (try simp only [LCg.Off1, and_true] at o1'q)))
  k_with "my binaryOp RShift int int" => ((guard_hyp hmkW6); (k_here; (with_reducible refine rsh64 (by with_reducible assumption) ?_)))
  exact True.intro

theorem utf8_signN_at (w : World) (news : List (Addr × Obj)) (b : Array UInt8) (ks : List Int) (lead lo D c i : Int) (n : Nat) (V : Nat → Int) (t t' : Tok) (hb : KBw.bInts b = ks) (hn : ks.length ≤ 4000) (h0 : 0 ≤ i) (h1 : i + n < ks.length) (hn1 : 1 ≤ n) (hn3 : n ≤ 3) (g0 : ks.getD i.toNat 0 = lead) (hl0 : 128 ≤ lead) (hl1 : lead < 256) (hL : Ld lead lo n) (hD : ShD n D) (hD8 : 8 ≤ D) (hV0 : Int.fmod lead D = V 0) (hf : Fol ks i lo c n V) : CG w 3 163 [.bytes b t, .int i t'] news (RT2I news c (n + 1)) := by
  obtain ⟨hVc, hf⟩ := hf
  subst g0
  have hlo : lo = 128 ∨ lo = 144 := by rcases hL with h | h | h <;> omega
  replace hf := Kp.mk hf
  have hmkW6 : OwnW := True.intro
  w_top off
  intro mean mg mb dp un gd cn cs a ccd cl outer A₀ base h₀ L m s Q E B F X N T hk hd hu hret
  refine wpAny_call ?_
  k_dflt cell_enter
  (try (refine let_AE ?_; intro A9q e9q)); (try ((with_reducible rename Fr _ _ _ _ => F9q); refine let_m F9q ?_; clear F9q; intro m9q F'))
  have hmkW61 : OwnW := True.intro
  k_with "pyIter ref" => (guard_hyp hmkW61; k_dflt (refine' lp_rangeC (n := n) (σ := Int × Tok × Int × Tok × Tok) (fun c => [("code", .int c.1 c.2.1), ("least", .int c.2.2.1 c.2.2.2.1), ("most", .int 191 c.2.2.2.2)]) [] (fun j c => c.1 = V j ∧ (c.2.2.1 = 128 ∨ j = 0 ∧ c.2.2.1 = lo)) (Int.fmod (ks.getD i.toNat 0) D, _, lo, _, _) rfl (by assumption) (small_one (by omega) (by omega) (by omega) (by omega)) (rsz_up (by omega)) (by k_asm) (by k_asm) (by kst_all) ⟨hV0, Or.inr ⟨rfl, rfl⟩⟩ ?_ ?_))
  (try k_fold)
  k_steps
  · rintro j k t2 c2 u h1 tk2 own hj hk hoff ⟨hJ, hJ2⟩ F' N'
    obtain rfl : k = 1 + (j : Int) := by omega
    clear hk
    obtain ⟨g1, g2, g3, g4, g5, g6⟩ := hf.out j hj
    have h5 : i + (1 + (j : Int)) < ks.length := by omega
    have h6 : c2.2.2.1 ≤ ks.getD (i + (1 + (j : Int))).toNat 0 := by
      rcases hJ2 with e | ⟨e0, e⟩
      · rw [e]; exact g1
      · rw [e]; exact g3 e0
    rw [← hJ] at g4 g5 g6
    clear hJ hJ2 g3
    simp only [List.cons_append] at N'
    (try k_fold)
    (try (refine let_m F' ?_; clear F'; intro m9q F'm))
    k_steps
    refine' lp_end (_, _, _, _, _) ?lpF ?lpN ?lpn ?lpo ?lpa ?lpk ?lpr ?_
    (case lpF => k_asm)
    (case lpN => k_asm)
    (case lpn => kcf_all)
    (case lpo => kcf_all)
    (case lpa => exact rfl)
    (case lpk => first | exact List.forall_mem_nil _ | kst_all)
    (case lpr => (intro z9 h91 h92 h93; first | ((repeat (with_reducible refine lz_cond ?n9 ?_; (case n9 => first | exact h91 | exact lz_sto h93 rfl | exact lz_ps h92 rfl))); refine' (lz_off ?n9).trans ?_; (case n9 => first | exact lz_all h92 rfl | exact List.forall_mem_nil _); exact if_neg (lz_ns h93)) | ((try simp only [List.mem_cons, List.not_mem_nil, or_false, forall_eq, forall_eq_or_imp] at h92); first | (simp only [h91, if_false, kstB]; done) | (simp [kstB, h91, h92]; done) | (simp_all [kstB]; done))))
    refine ⟨?_, Or.inl rfl⟩
    dsimp only
    rw [g4, Int.fmod_eq_emod_of_nonneg _ (by decide)]
  · rintro c2 u h1 tk2 ⟨hJ, -⟩ F' N'
    (try k_fold)
    (try (refine let_m F' ?_; clear F'; intro m9q F'm))
    k_steps
    refine' hret _ _ _ _ _ _ _ ?cA rfl ?cF ?cN ?cO
    (case cF => k_asm)
    (case cN => first | k_asm | (refine' cb_drop ?cbN ?cbS; (case cbN => assumption); (case cbS => kcj_all)))
    (case cA => exact hJ.trans hVc)
    (case cO => (rename (_ < _ ∧ AllLt _ _) => h9; exact off1_lt (allLt_mem _ h9.2)))
theorem utf8_sign2_at (w : World) (news : List (Addr × Obj)) (b : Array UInt8) (ks : List Int) (c i : Int) (t t' : Tok) (hb : KBw.bInts b = ks) (hn : ks.length ≤ 4000) (h0 : 0 ≤ i) (h1 : i + 1 < ks.length) (hc : 128 ≤ c ∧ c < 2048) (g0 : ks.getD i.toNat 0 = 192 + c / 64) (g1 : ks.getD (i + 1).toNat 0 = 128 + c % 64) : CG w 3 163 [.bytes b t, .int i t'] news (RT2I news c 2) := by
  have hq : c / 64 < 32 := Int.ediv_lt_of_lt_mul (by decide) (Int.lt_of_lt_of_le hc.2 (by decide))
  have hq0 : 2 ≤ c / 64 := Int.le_ediv_of_mul_le (by decide) (Int.le_trans (by decide) hc.1)
  have hr := Int.emod_nonneg c (show (64 : Int) ≠ 0 by decide)
  have hr1 := Int.emod_lt_of_pos c (show (0 : Int) < 64 by decide)
  have hs := Int.ediv_mul_add_emod c 64
  generalize c / 64 = q at *
  generalize c % 64 = r at *
  refine utf8_signN_at w news b ks _ 128 32 c i 1 (fun j => if j = 0 then q else c) t t' hb hn h0 h1 (Nat.le_refl _) (by decide) g0 (by omega) (by omega) (Or.inl ⟨by omega, by omega, rfl, rfl⟩) ⟨by decide, by decide⟩ (by decide) ?_ ⟨rfl, ?_⟩
  · show Int.fmod (192 + q) 32 = q
    rw [Int.fmod_eq_emod_of_nonneg _ (by decide), show (192 : Int) + q = q + 32 * 6 by omega, Int.add_mul_emod_self_left]
    exact Int.emod_eq_of_lt (by omega) hq
  · intro j hj
    obtain rfl : j = 0 := by omega
    show 128 ≤ ks.getD (i + 1).toNat 0 ∧ ks.getD (i + 1).toNat 0 ≤ 191 ∧ (0 = 0 → 128 ≤ ks.getD (i + 1).toNat 0) ∧ c = q * 64 + ks.getD (i + 1).toNat 0 % 64 ∧ 0 ≤ q ∧ q ≤ 4096
    rw [g1, show (128 : Int) + r = r + 64 * 2 by omega, Int.add_mul_emod_self_left, Int.emod_eq_of_lt hr hr1]
    exact ⟨by omega, by omega, fun _ => by omega, hs.symm, by omega, by omega⟩
theorem utf8_sign3_at (w : World) (news : List (Addr × Obj)) (b : Array UInt8) (ks : List Int) (i : Int) (t t' : Tok) (hb : KBw.bInts b = ks) (hn : ks.length ≤ 4000) (h0 : 0 ≤ i) (h1 : i + 2 < ks.length) (g0 : ks.getD i.toNat 0 = 226) (g1 : ks.getD (i + 1).toNat 0 = 130) (g2 : ks.getD (i + 2).toNat 0 = 172) : CG w 3 163 [.bytes b t, .int i t'] news (RT2I news 8364 3) := by
  refine utf8_signN_at w news b ks _ 128 16 8364 i 2 (fun j => ([2, 130, 8364] : List Int).getD j 0) t t' hb hn h0 h1 (by decide) (by decide) g0 (by decide) (by decide) (Or.inr (Or.inl ⟨rfl, rfl, rfl⟩)) ⟨by decide, by decide⟩ (by decide) (by decide) ⟨rfl, ?_⟩
  intro j hj
  match j, hj with
  | 0, _ => show 128 ≤ ks.getD (i + 1).toNat 0 ∧ ks.getD (i + 1).toNat 0 ≤ 191 ∧ (0 = 0 → 128 ≤ ks.getD (i + 1).toNat 0) ∧ (130 : Int) = 2 * 64 + ks.getD (i + 1).toNat 0 % 64 ∧ (0 : Int) ≤ 2 ∧ (2 : Int) ≤ 4096; rw [g1]; decide
  | 1, _ => show 128 ≤ ks.getD (i + 2).toNat 0 ∧ ks.getD (i + 2).toNat 0 ≤ 191 ∧ (1 = 0 → 128 ≤ ks.getD (i + 2).toNat 0) ∧ (8364 : Int) = 130 * 64 + ks.getD (i + 2).toNat 0 % 64 ∧ (0 : Int) ≤ 130 ∧ (130 : Int) ≤ 4096; rw [g2]; decide
theorem utf8_sign4_at (w : World) (news : List (Addr × Obj)) (b : Array UInt8) (ks : List Int) (i : Int) (t t' : Tok) (hb : KBw.bInts b = ks) (hn : ks.length ≤ 4000) (h0 : 0 ≤ i) (h1 : i + 3 < ks.length) (g0 : ks.getD i.toNat 0 = 240) (g1 : ks.getD (i + 1).toNat 0 = 159) (g2 : ks.getD (i + 2).toNat 0 = 152) (g3 : ks.getD (i + 3).toNat 0 = 128) : CG w 3 163 [.bytes b t, .int i t'] news (RT2I news 128512 4) := by
  refine utf8_signN_at w news b ks _ 144 8 128512 i 3 (fun j => ([0, 31, 2008, 128512] : List Int).getD j 0) t t' hb hn h0 h1 (by decide) (by decide) g0 (by decide) (by decide) (Or.inr (Or.inr ⟨rfl, rfl, rfl⟩)) ⟨by decide, by decide⟩ (by decide) (by decide) ⟨rfl, ?_⟩
  intro j hj
  match j, hj with
  | 0, _ => show 128 ≤ ks.getD (i + 1).toNat 0 ∧ ks.getD (i + 1).toNat 0 ≤ 191 ∧ (0 = 0 → 144 ≤ ks.getD (i + 1).toNat 0) ∧ (31 : Int) = 0 * 64 + ks.getD (i + 1).toNat 0 % 64 ∧ (0 : Int) ≤ 0 ∧ (0 : Int) ≤ 4096; rw [g1]; decide
  | 1, _ => show 128 ≤ ks.getD (i + 2).toNat 0 ∧ ks.getD (i + 2).toNat 0 ≤ 191 ∧ (1 = 0 → 144 ≤ ks.getD (i + 2).toNat 0) ∧ (2008 : Int) = 31 * 64 + ks.getD (i + 2).toNat 0 % 64 ∧ (0 : Int) ≤ 31 ∧ (31 : Int) ≤ 4096; rw [g2]; decide
  | 2, _ => show 128 ≤ ks.getD (i + 3).toNat 0 ∧ ks.getD (i + 3).toNat 0 ≤ 191 ∧ (2 = 0 → 144 ≤ ks.getD (i + 3).toNat 0) ∧ (128512 : Int) = 2008 * 64 + ks.getD (i + 3).toNat 0 % 64 ∧ (0 : Int) ≤ 2008 ∧ (2008 : Int) ≤ 4096; rw [g3]; decide

theorem drop_facts {ks l r : List Int} {i : Int} (h : ks.drop i.toNat = l ++ r) (h0 : 0 ≤ i) (hi : i ≤ ks.length) (j : Nat) (hj : j < l.length) : ks.getD (i + j).toNat 0 = l.getD j 0 ∧ i + j < ks.length := by
  obtain ⟨n, rfl⟩ := Int.eq_ofNat_of_zero_le h0
  have h' : ks.drop n = l ++ r := h
  have hl := congrArg List.length h'
  rw [List.length_drop, List.length_append] at hl
  refine ⟨?_, Int.ofNat_lt.mpr (Nat.add_lt_of_lt_sub' (hl ▸ Nat.lt_of_lt_of_le hj (Nat.le_add_right _ _)))⟩
  have e : ks.getD (n + j) 0 = (ks.drop n).getD j 0 := by simp [List.getD_eq_getElem?_getD, List.getElem?_drop]
  show ks.getD (n + j) 0 = _
  rw [e, h', List.getD_eq_getElem?_getD, List.getD_eq_getElem?_getD, List.getElem?_append_left hj]
theorem utf8_sign_at (w : World) (news : List (Addr × Obj)) (b : Array UInt8) (ks r : List Int) (c i : Int) (t t' : Tok) (hb : KBw.bInts b = ks) (hn : ks.length ≤ 4000) (h0 : 0 ≤ i) (hi : i ≤ ks.length) (hc : Sg c) (hd9 : ks.drop i.toNat = u8 c ++ r) : CG w 3 163 [.bytes b t, .int i t'] news (RT2I news c (u8 c).length) := by
  have D := drop_facts hd9 h0 hi
  have hz : i + ((0 : Nat) : Int) = i := Int.add_zero i
  rcases hc with hc | rfl | rfl
  · by_cases h : c < 128
    · have e : u8 c = [c] := if_pos h
      rw [e] at D ⊢
      have d0 := D 0 (by simp)
      rw [hz] at d0
      exact utf8_sign1_at w news b ks c i t t' hb hn h0 d0.2 d0.1 h
    · have e : u8 c = [192 + c / 64, 128 + c % 64] := by unfold u8; rw [if_neg h, if_pos hc.2]
      rw [e] at D ⊢
      have d0 := D 0 (by simp)
      have d1 := D 1 (by simp)
      rw [hz] at d0
      exact utf8_sign2_at w news b ks c i t t' hb hn h0 d1.2 ⟨Int.not_lt.mp h, hc.2⟩ d0.1 d1.1
  · have e : u8 8364 = [226, 130, 172] := by decide
    rw [e] at D ⊢
    have d0 := D 0 (by simp)
    have d1 := D 1 (by simp)
    have d2 := D 2 (by simp)
    rw [hz] at d0
    exact utf8_sign3_at w news b ks i t t' hb hn h0 d2.2 d0.1 d1.1 d2.1
  · have e : u8 128512 = [240, 159, 152, 128] := by decide
    rw [e] at D ⊢
    have d0 := D 0 (by simp)
    have d1 := D 1 (by simp)
    have d2 := D 2 (by simp)
    have d3 := D 3 (by simp)
    rw [hz] at d0
    exact utf8_sign4_at w news b ks i t t' hb hn h0 d3.2 d0.1 d1.1 d2.1 d3.1
theorem layW81 : True := by
  k_with "my call ref" => ((k_here; (with_reducible show wpAny _ _ (PySem.call (Value.ref 163) _) _ _ _); k_dflt (refine' called (utf8_sign_at _ _ _ _ _ _ _ _ _ (by kba_ints) (by omega) (by omega) (by omega) (by with_reducible assumption) (by with_reducible assumption)) ?kBZ9 ?kFZ9 ?kXZ9 ?kNZ9 ?kTZ9 ?kKZ9 ?kDZ9 ?kUZ9 ?_; (case kBZ9 | kFZ9 | kXZ9 | kNZ9 | kTZ9 => k_asm); (case kKZ9 => first | exact rfl | assumption); (case kDZ9 => ktr_room); (case kUZ9 => ktr_units)); intro T'q t1'q t2'q a'q n'q h'q tk'q ha'q hn'q F'q N'q o1'q; (try simp only [LCg.Off1, and_true] at o1'q)))
  exact True.intro
theorem sign_at_at (w : World) (news : List (Addr × Obj)) (b : Array UInt8) (chs : Str) (ks r : List Int) (c i : Int) (t t' t2 : Tok) (hcs : chs = cA ∨ chs = cL ∨ chs = cU) (hb : KBw.bInts b = ks) (hn : ks.length ≤ 4000) (h0 : 0 ≤ i) (hi : i ≤ ks.length) (hc : Sg c) (hh : has chs c = true) (hd9 : ks.drop i.toNat = en chs c ++ r) : CG w 5 170 [.str chs t, .bytes b t', .int i t2] news (RT2I news c (en chs c).length) := by
  have D := drop_facts hd9 h0 hi
  have hz : i + ((0 : Nat) : Int) = i := Int.add_zero i
  rcases hcs with rfl | rfl | rfl
  · have e : en cA c = [c] := if_neg (by decide)
    rw [e] at D hd9 ⊢
    have d0 := D 0 (by simp)
    rw [hz] at d0
    have d1 : ks.getD i.toNat 0 = c := d0.1
    have d2 := d0.2
    have h128 : c < 128 := by unfold has at hh; rw [if_neg (by decide), if_pos rfl] at hh; simpa using hh
    clear D d0 hh
    intro mean mg mb dp un gd cn cs a ccd cl outer A₀ base h₀ L m s Q E B F X N T hk hd hu hret
    refine wpAny_call ?_
    k_dflt cell_enter
    (try (refine let_AE ?_; intro A9q e9q)); (try ((with_reducible rename Fr _ _ _ _ => F9q); refine let_m F9q ?_; clear F9q; intro m9q F'))
    (try k_fold)
    k_steps
    refine' hret _ _ _ _ _ _ _ d1 rfl ?cF ?cN ?cO
    (case cF => k_asm)
    (case cN => first | k_asm | (refine' cb_drop ?cbN ?cbS; (case cbN => assumption); (case cbS => kcj_all)))
    (case cO => first | exact off1_lt (allLt_mem _ (by assumption)) | exact off1_lt (by assumption))
  · have e : en cL c = [c] := if_neg (by decide)
    rw [e] at D hd9 ⊢
    have d0 := D 0 (by simp)
    rw [hz] at d0
    have d1 : ks.getD i.toNat 0 = c := d0.1
    have d2 := d0.2
    clear D d0 hh
    intro mean mg mb dp un gd cn cs a ccd cl outer A₀ base h₀ L m s Q E B F X N T hk hd hu hret
    refine wpAny_call ?_
    k_dflt cell_enter
    (try (refine let_AE ?_; intro A9q e9q)); (try ((with_reducible rename Fr _ _ _ _ => F9q); refine let_m F9q ?_; clear F9q; intro m9q F'))
    (try k_fold)
    k_steps
    refine' hret _ _ _ _ _ _ _ d1 rfl ?cF ?cN ?cO
    (case cF => k_asm)
    (case cN => first | k_asm | (refine' cb_drop ?cbN ?cbS; (case cbN => assumption); (case cbS => kcj_all)))
    (case cO => first | exact off1_lt (allLt_mem _ (by assumption)) | exact off1_lt (by assumption))
  · have e : en cU c = u8 c := if_pos rfl
    rw [e] at hd9 ⊢
    clear D hh
    intro mean mg mb dp un gd cn cs a ccd cl outer A₀ base h₀ L m s Q E B F X N T hk hd hu hret
    refine wpAny_call ?_
    k_dflt cell_enter
    (try (refine let_AE ?_; intro A9q e9q)); (try ((with_reducible rename Fr _ _ _ _ => F9q); refine let_m F9q ?_; clear F9q; intro m9q F'))
    (try k_fold)
    k_steps
    refine' hret _ _ _ _ _ _ _ ?cA ?cB ?cF ?cN ?cO
    (case cF => k_asm)
    (case cN => first | k_asm | (refine' cb_drop ?cbN ?cbS; (case cbN => assumption); (case cbS => kcj_all)))
    (case cA => assumption)
    (case cB => assumption)
    (case cO => first | assumption | exact off1_lt (allLt_mem _ (by assumption)))
theorem layW82 : True := by
  k_with "my call ref" => ((k_here; (with_reducible show wpAny _ _ (PySem.call (Value.ref 170) _) _ _ _); k_dflt (refine' called (sign_at_at _ _ _ _ _ _ _ _ _ _ _ (by with_reducible assumption) (by kba_ints) (by omega) (by omega) (by omega) (by with_reducible assumption) (by with_reducible exact Kp.out (by with_reducible assumption)) (by with_reducible exact Kp.out (by with_reducible assumption))) ?kBZ9 ?kFZ9 ?kXZ9 ?kNZ9 ?kTZ9 ?kKZ9 ?kDZ9 ?kUZ9 ?_; (case kBZ9 | kFZ9 | kXZ9 | kNZ9 | kTZ9 => k_asm); (case kKZ9 => first | exact rfl | assumption); (case kDZ9 => ktr_room); (case kUZ9 => ktr_units)); intro T'q t1'q t2'q a'q n'q h'q tk'q ha'q hn'q F'q N'q o1'q; (try simp only [LCg.Off1, and_true] at o1'q)))
  exact True.intro
theorem enc_len (chs : Str) (ts : List Int) : (ts.flatMap (en chs)).length ≤ 4 * ts.length := flatMap_le _ 4 ts fun c _ => (en_len chs c).2
theorem text_in_at (w : World) (news : List (Addr × Obj)) (b : Array UInt8) (chs z : Str) (t t' : Tok) (hcs : chs = cA ∨ chs = cL ∨ chs = cU) (hb : KBw.bInts b = (txI z).flatMap (en chs)) (hn : z.length ≤ 64) (hz : ∀ c ∈ txI z, Sg c ∧ has chs c = true) : CG w 6 177 [.str chs t, .bytes b t'] news (RS news z) := by
  have hkl := enc_len chs (txI z)
  rw [txI_len] at hkl
  have hzl := txI_len z
  generalize hks : (txI z).flatMap (en chs) = ks at *
  replace hks := Kp.mk hks
  w_top off
  intro mean mg mb dp un gd cn cs a ccd cl outer A₀ base h₀ L m s Q E B F X N T hk hd hu hret
  refine wpAny_call ?_
  k_dflt cell_enter
  (try (refine let_AE ?_; intro A9q e9q)); (try ((with_reducible rename Fr _ _ _ _ => F9q); refine let_m F9q ?_; clear F9q; intro m9q F'))
  have hmkW81 : OwnW := True.intro
  k_with "exec While Compare cons nil" => (guard_hyp hmkW81; k_dflt (refine' lp_while (σ := List Value × Nat × Int × Tok × Nat) (fun c => listOf c.1.toArray c.2.1) (fun c => [("at", .int c.2.2.1 c.2.2.2.1)]) ["code", "length"] (fun c => StrsAre c.1 (((txI z).take c.2.2.2.2).map fun k => ⟨#[k.toNat]⟩) ∧ 0 ≤ c.2.2.1 ∧ c.2.2.1 ≤ ks.length ∧ c.2.2.2.2 ≤ z.length ∧ ks.drop c.2.2.1.toNat = ((txI z).drop c.2.2.2.2).flatMap (en chs)) (fun c => z.length - c.2.2.2.2) ([], 0, 0, _, 0) (by k_asm) (by k_asm) (by kst_all) ⟨.nil, Int.le_refl _, Int.natCast_nonneg _, Nat.zero_le _, hks.out.symm⟩ (by passes_own) ?_))
  (try k_fold)
  k_steps
  intro c u h1 tk ⟨hS, h0, h1', hk, hd9⟩ F' N'
  have hSl := hS.len_eq
  rw [List.length_map, List.length_take, txI_len] at hSl
  by_cases hkz : c.2.2.2.2 < z.length
  · have hzk := txI_get hkz
    obtain ⟨hsg, hhas⟩ := hz _ (List.mem_of_getElem? hzk)
    rw [drop_cons hzk, List.flatMap_cons] at hd9
    have hel := en_len chs (z.cps.getD c.2.2.2.2 0 : Int)
    have D0 := (drop_facts hd9 h0 h1' 0 hel.1).2
    have hlen := congrArg List.length hd9
    rw [List.length_drop, List.length_append] at hlen
    have hcod : (z.cps.getD c.2.2.2.2 0 : Int) ≤ 1114111 := hsg.cod.elim (fun h => Int.le_trans (Int.le_of_lt h.2) (by decide)) (fun h => h.2)
    replace hd9 := Kp.mk hd9
    replace hhas := Kp.mk hhas
    (try k_fold)
    (try (refine let_m F' ?_; clear F'; intro m9q F'm))
    k_steps
    rename (_ = ((en chs _).length : Int)) => en9; rename (_ = ((z.cps.getD _ 0 : Nat) : Int)) => ea9
    refine' ksw_end (_, _, _, _, c.2.2.2.2 + 1) ?lpF ?lpN ?lpn trivial ?lpk ?lpr ?_ ?_
    (case lpF => k_asm)
    (case lpN => k_asm)
    (case lpn => kcf_all)
    (case lpk => first | exact List.forall_mem_nil _ | kst_all)
    (case lpr => (intro z9 h92 h93; first | ((repeat (with_reducible refine lz_cond ?n9 ?_; (case n9 => first | exact lz_sto h93 rfl | exact lz_ps h92 rfl))); refine' (lz_off ?n9).trans ?_; (case n9 => first | exact lz_all h92 rfl | exact List.forall_mem_nil _); exact if_neg (lz_ns h93)) | ((try simp only [List.mem_cons, List.not_mem_nil, or_false, forall_eq, forall_eq_or_imp] at h92); first | (simp [kstB, h92]; done) | (simp_all [kstB]; done))))
    · refine ⟨?_, by dsimp only; rw [en9]; exact Int.add_nonneg h0 (Int.natCast_nonneg _), by dsimp only; rw [en9]; exact adv_le h0 h1' hlen, hkz, ?_⟩
      · rw [List.take_add_one, hzk, Option.toList_some, List.map_append, ea9]
        exact strs_snoc hS _ _
      · dsimp only
        rw [en9]
        have := congrArg (List.drop (en chs (z.cps.getD c.2.2.2.2 0 : Int)).length) hd9.out
        rw [List.drop_drop, List.drop_left] at this
        rw [← this]; exact congrArg (fun n => List.drop n ks) (adv h0)
    · exact Nat.sub_lt_sub_left hkz (Nat.lt_succ_self _)
  · rw [show c.2.2.2.2 = z.length from Nat.le_antisymm hk (Nat.le_of_not_lt hkz), ← txI_len, List.drop_length] at hd9
    have hlen := congrArg List.length hd9
    rw [List.length_drop] at hlen
    simp only [List.flatMap_nil, List.length_nil] at hlen
    have hat : c.2.2.1 = ks.length := at_end h0 h1' hlen
    rw [show c.2.2.2.2 = z.length from Nat.le_antisymm hk (Nat.le_of_not_lt hkz), ← txI_len, List.take_length] at hS
    clear hd9
    (try k_fold)
    (try (refine let_m F' ?_; clear F'; intro m9q F'm))
    k_steps
    k_dflt (refine' s_join (by is_list) hS ?_ ?_)
    · rw [ones_sum, List.length_map, txI_len]; omega
    · intro z2 t2 k2 hz2
      rw [ones_flat] at hz2
      (try k_fold)
      (try (refine let_m F' ?_; clear F'; intro m9q F'm))
      k_steps
      refine' gStr (Q := Q) hret ?_ ?cF ?cN
      (case cF => k_asm)
      (case cN => first | k_asm | (refine' cb_drop ?cbN ?cbS; (case cbN => assumption); (case cbS => kcj_all)))
      rw [ofI_ones hz2, ofI_txI]

/-- signs in a row, as octets -/
def encT (chs : Str) (ts : List Int) : List Int := ts.flatMap (en chs)
abbrev RT2 (news : List (Addr × Obj)) (z : Str) (x : Int) : Cont := fun h₀ L m s Q _ => ∀ (T : Addr) (t1 t2 : Tok) (y : Int) (h' : Heap) (tk' : Nat), y = x → Fr h₀ L h' m → News h₀ L h' ((T, { cls := .type "tuple", data := .seq #[.str z t1, .int y t2] }) :: news) → LCg.Off1 T news → Q (.ref T) { s with heap := h', toks := tk' }
theorem layW71 : True := by
  k_with "my call ref" => ((k_here; (with_reducible show wpAny _ _ (PySem.call (Value.ref 177) _) _ _ _); k_dflt (refine' called (text_in_at _ _ _ _ _ _ _ (by with_reducible assumption) (by with_reducible assumption) (by omega) (by with_reducible assumption)) ?kBZ9 ?kFZ9 ?kXZ9 ?kNZ9 ?kTZ9 ?kKZ9 ?kDZ9 ?kUZ9 ?_; (case kBZ9 | kFZ9 | kXZ9 | kNZ9 | kTZ9 => k_asm); (case kKZ9 => first | exact rfl | assumption); (case kDZ9 => ktr_room); (case kUZ9 => ktr_units)); intro t'q h'q tk'q F'q N'q))
  exact True.intro
theorem layW72 : True := by
  k_with "my subscriptTail Name Constant ref int" => ((k_here; (with_reducible show wpAny _ _ (subscriptTail _ _ (Value.ref _) (Value.int _ _)) _ _ _); (with_unfolding_all refine' item_tupleT ?k1Z9 ?k2Z9 ?k3Z9 ?k4Z9 ?k5Z9 ?_ ?k6Z9; (case k1Z9 => exact News.isTup (by k_asm) (by k_mem)); (case k2Z9 => decide); (case k3Z9 => decide); (case k4Z9 => rfl); (case k5Z9 => rfl); (case k6Z9 => with_unfolding_all rfl); k_whole)))
  exact True.intro
theorem s_split1 {prog : Program} {w : World} {A : Around} {E : Value → Shared → Prop} {s : Shared} {h₀ : Heap} {L : Addr} {m : Str → Option Value} {news : List (Addr × Obj)} {x y : Str} {t u : Tok} {Q : Value → Shared → Prop} (hF : Fr h₀ L s.heap m) (hN : News h₀ L s.heap news) (he : Txt.split x y = [x]) (hy : (y.length == 0) = false) (hsz : x.length + 2 ≤ 16777216)
    (h : ∀ t' h' k, Fr h₀ L h' m → News h₀ L h' ((s.heap.objs.size, { cls := .type "list", data := .seq [Value.str x t'].toArray }) :: news) → (∀ p ∈ news, p.1 < s.heap.objs.size) → Q (.ref s.heap.objs.size) { s with heap := h', toks := k }) :
    wpAny (model prog w) A (call (.builtin "str.split") [.str x t, .str y u]) Q E s := by
  refine splitN1 hF hN hy (fun l h' k e F' N' => ?_) (by rw [sizeLine_eq]; exact hsz)
  rw [he] at e
  match l, e with
  | [(a, b)], e =>
    obtain rfl : a = x := List.head_eq_of_cons_eq e
    exact h b h' k F' N' fun p hp => Heap.lt_size (hN p hp).1
theorem split_cs {chs : Str} (hcs : chs = cA ∨ chs = cL ∨ chs = cU) : Txt.split chs (Str.ofString "*") = [chs] := by
  rcases hcs with rfl | rfl | rfl <;> decide +kernel
theorem plain_text_z {w : World} {news : List (Addr × Obj)} {b : Array UInt8} {z : Str} {t : Tok} (hb : KBw.bInts b = txI z) (hn : z.length ≤ 4000) : CG w 1 321 [.bytes b t] news (RS news z) := by
  have := plain_text_at w news b _ t hb (by rw [txI_len]; exact hn)
  rwa [ofI_txI] at this
theorem layW73 : True := by
  k_with "my call ref" => ((k_here; (with_reducible show wpAny _ _ (PySem.call (Value.ref 321) _) _ _ _); k_dflt (refine' called (plain_text_z (by with_reducible assumption) (by omega)) ?kBZ9 ?kFZ9 ?kXZ9 ?kNZ9 ?kTZ9 ?kKZ9 ?kDZ9 ?kUZ9 ?_; (case kBZ9 | kFZ9 | kXZ9 | kNZ9 | kTZ9 => k_asm); (case kKZ9 => first | exact rfl | assumption); (case kDZ9 => ktr_room); (case kUZ9 => ktr_units)); intro t'q h'q tk'q F'q N'q))
  k_with "my call builtin:str.split" => ((k_here; k_dflt (refine' s_split1 ?kFZ9 ?kNZ9 (by assumption) (by decide +kernel) (by omega) ?_; (case kFZ9 => k_asm); (case kNZ9 => k_asm)); intro t'q h'q tk'q F'q N'q l1'q))
  exact True.intro
theorem word_at_at (w : World) (news : List (Addr × Obj)) (b : Array UInt8) (chs way z : Str) (t t' : Tok) (hcs : chs = cA ∨ chs = cL ∨ chs = cU) (hw : way = wQ ∨ way = wB) (hb : KBw.bInts b = fr chs way (pay way (ens chs z))) (h75 : (fr chs way (pay way (ens chs z))).length ≤ 75) (hn : z.length ≤ 64) (hz : ∀ c ∈ txI z, Sg c ∧ has chs c = true) : CG w 8 328 [.bytes b t, .int 0 t'] news (RT2 news z (fr chs way (pay way (ens chs z))).length) := by
  have hin : KBa.In (ens chs z) := by
    intro n hn2
    obtain ⟨c, hc, h⟩ := List.mem_flatMap.mp hn2
    exact en_in (hz c hc).1.cod (hz c hc).2 n h
  have hqb := Kp.mk (q_back (ens chs z) hin)
  have hbb := Kp.mk (b_back (ens chs z) hin)
  have hfr : FrIn (fr chs way (pay way (ens chs z))) (txI chs) (txI way) (pay way (ens chs z)) := by
    refine ⟨rfl, ?_, ?_, ?_⟩
    · rcases hcs with rfl | rfl | rfl <;> decide +kernel
    · rcases hw with rfl | rfl <;> decide +kernel
    · intro c hc
      unfold pay at hc
      unfold iws
      split at hc
      · have := q_iws _ hin c hc; simp; omega
      · have := b64_iws _ c hc; simp; omega
  have hpl : (pay way (ens chs z)).length ≤ 75 := by rw [fr_len] at h75; omega
  have hcl := (cs_len hcs).1
  have hwl := (way_len hw).1
  have hic := txI_len chs
  have hiw := txI_len way
  generalize hpp : pay way (ens chs z) = pp at *
  replace hpp := Kp.mk hpp
  generalize fr chs way pp = ks at *
  have hsp := split_cs hcs
  have hne : (chs == Str.ofString "") = false := by rcases hcs with rfl | rfl | rfl <;> decide +kernel
  have htx : way = wQ → unq (List.map und pp) = (txI z).flatMap (en chs) := fun e => by
    subst e; rw [← hpp.out]; unfold pay; rw [if_pos rfl]; exact hqb.out
  have htb : way = wB → dec64 pp = (txI z).flatMap (en chs) := fun e => by
    subst e; rw [← hpp.out]; unfold pay; rw [if_neg (by decide)]; exact hbb.out
  replace htx := Kp.mk htx
  replace htb := Kp.mk htb
  clear hqb hbb hpp
  rcases hw with rfl | rfl
  all_goals
    intro mean mg mb dp un gd cn cs a ccd cl outer A₀ base h₀ L m s Q E B F X N T hk hd hu hret
    refine wpAny_call ?_
    k_dflt cell_enter
    (try (refine let_AE ?_; intro A9q e9q)); (try ((with_reducible rename Fr _ _ _ _ => F9q); refine let_m F9q ?_; clear F9q; intro m9q F'))
    (try k_fold)
    k_steps
    first
    | (rename (KBw.bInts _ = unq _) => e9; have e10 := e9.trans (htx.out rfl); clear e9)
    | (rename (KBw.bInts _ = dec64 _) => e9; have e10 := e9.trans (htb.out rfl); clear e9)
    (try k_fold)
    k_steps
    refine' hret _ _ _ _ _ _ ?cA ?cF ?cN ?cO
    (case cF => k_asm)
    (case cN => first | k_asm | (refine' cb_drop ?cbN ?cbS; (case cbN => assumption); (case cbS => kcj_all)))
    (case cA => assumption)
    (case cO => (rename (_ < _ ∧ _ < _ ∧ AllLt _ _) => h9; exact off1_lt (allLt_mem _ h9.2.2)))
theorem layW74 : True := by
  k_with "my call ref" => ((k_here; (with_reducible show wpAny _ _ (PySem.call (Value.ref 328) _) _ _ _); k_dflt (refine' called (word_at_at _ _ _ _ _ _ _ _ (by with_reducible assumption) (by with_reducible assumption) (by with_reducible assumption) (by with_reducible assumption) (by omega) (by with_reducible assumption)) ?kBZ9 ?kFZ9 ?kXZ9 ?kNZ9 ?kTZ9 ?kKZ9 ?kDZ9 ?kUZ9 ?_; (case kBZ9 | kFZ9 | kXZ9 | kNZ9 | kTZ9 => k_asm); (case kKZ9 => first | exact rfl | assumption); (case kDZ9 => ktr_room); (case kUZ9 => ktr_units)); intro T'q t1'q t2'q y'q h'q tk'q hy'q F'q N'q o1'q; (try simp only [LCg.Off1, and_true] at o1'q)))
  exact True.intro

abbrev eS : Str := Str.ofString ""
theorem eS_txI : txI eS = [] := by decide +kernel
theorem strict_empty (w : World) (news : List (Addr × Obj)) (b : Array UInt8) (t t' : Tok) (hb : KBw.bInts b = []) : CG w 4 184 [.str cU t, .bytes b t'] news (RS news eS) := by
  w_top off
  intro mean mg mb dp un gd cn cs a ccd cl outer A₀ base h₀ L m s Q E B F X N T hk hd hu hret
  refine wpAny_call ?_
  k_dflt cell_enter
  (try (refine let_AE ?_; intro A9q e9q)); (try ((with_reducible rename Fr _ _ _ _ => F9q); refine let_m F9q ?_; clear F9q; intro m9q F'))
  (try k_fold)
  k_steps
  refine' gStr (Q := Q) hret ?_ ?cF ?cN
  (case cF => k_asm)
  (case cN => first | k_asm | (refine' cb_drop ?cbN ?cbS; (case cbN => assumption); (case cbS => kcj_all)))
  decide +kernel
theorem layW91 : True := by
  k_with "my call ref" => ((k_here; (with_reducible show wpAny _ _ (PySem.call (Value.ref 184) _) _ _ _); k_dflt (refine' called (strict_empty _ _ _ _ _ (by kba_ints)) ?kBZ9 ?kFZ9 ?kXZ9 ?kNZ9 ?kTZ9 ?kKZ9 ?kDZ9 ?kUZ9 ?_; (case kBZ9 | kFZ9 | kXZ9 | kNZ9 | kTZ9 => k_asm); (case kKZ9 => first | exact rfl | assumption); (case kDZ9 => ktr_room); (case kUZ9 => ktr_units)); intro t'q h'q tk'q F'q N'q))
  exact True.intro
theorem guessed_empty (w : World) (news : List (Addr × Obj)) (b : Array UInt8) (t : Tok) (hb : KBw.bInts b = []) : CG w 6 191 [.bytes b t] news (RS news eS) := by
  w_top off
  intro mean mg mb dp un gd cn cs a ccd cl outer A₀ base h₀ L m s Q E B F X N T hk hd hu hret
  refine wpAny_call ?_
  k_dflt cell_enter
  (try (refine let_AE ?_; intro A9q e9q)); (try ((with_reducible rename Fr _ _ _ _ => F9q); refine let_m F9q ?_; clear F9q; intro m9q F'))
  (try k_fold)
  k_steps
  refine' gStr (Q := Q) hret ?_ ?cF ?cN
  (case cF => k_asm)
  (case cN => first | k_asm | (refine' cb_drop ?cbN ?cbS; (case cbN => assumption); (case cbS => kcj_all)))
  rfl
theorem layW92 : True := by
  k_with "my call ref" => ((k_here; (with_reducible show wpAny _ _ (PySem.call (Value.ref 191) _) _ _ _); k_dflt (refine' called (guessed_empty _ _ _ _ (by kba_ints)) ?kBZ9 ?kFZ9 ?kXZ9 ?kNZ9 ?kTZ9 ?kKZ9 ?kDZ9 ?kUZ9 ?_; (case kBZ9 | kFZ9 | kXZ9 | kNZ9 | kTZ9 => k_asm); (case kKZ9 => first | exact rfl | assumption); (case kDZ9 => ktr_room); (case kUZ9 => ktr_units)); intro t'q h'q tk'q F'q N'q))
  exact True.intro
abbrev tupB (v : Bool) (x : Value) : Obj := { cls := .type "tuple", data := .seq #[.bool v, x] }
/-- the pieces of a word alone -/
abbrev RPC (news : List (Addr × Obj)) (z : Str) : Cont := fun h₀ L m s Q _ => ∀ (D T1 T2 T3 : Addr) (n : Nat) (b1 b3 : Array UInt8) (t1 t2 t3 : Tok) (h' : Heap) (tk' : Nat), KBw.bInts b1 = [] → KBw.bInts b3 = [] → Fr h₀ L h' m →
  News h₀ L h' ((D, listOf [Value.ref T1, Value.ref T2, Value.ref T3].toArray n) :: (T3, tupB false (.bytes b3 t3)) :: (T2, tupB true (.str z t2)) :: (T1, tupB false (.bytes b1 t1)) :: news) → (∀ p ∈ news, p.1 < T1) → T1 < T2 → T2 < T3 → T3 < D → Q (.ref D) { s with heap := h', toks := tk' }
theorem word_at_k {w : World} {news : List (Addr × Obj)} {b : Array UInt8} {chs way z : Str} {ks : List Int} {t t' : Tok} (hks : fr chs way (pay way (ens chs z)) = ks) (hcs : chs = cA ∨ chs = cL ∨ chs = cU) (hw : way = wQ ∨ way = wB) (hb : KBw.bInts b = ks) (h75 : ks.length ≤ 75) (hn : z.length ≤ 64) (hz : ∀ c ∈ txI z, Sg c ∧ has chs c = true) : CG w 8 328 [.bytes b t, .int 0 t'] news (RT2 news z ks.length) := by
  subst hks; exact word_at_at w news b chs way z t t' hcs hw hb h75 hn hz
theorem layW93 : True := by
  k_with "my call ref" => ((k_here; (with_reducible show wpAny _ _ (PySem.call (Value.ref 328) _) _ _ _); k_dflt (refine' called (word_at_k (by with_reducible exact Kp.out (by with_reducible assumption)) (by with_reducible assumption) (by with_reducible assumption) (by with_reducible assumption) (by omega) (by omega) (by with_reducible assumption)) ?kBZ9 ?kFZ9 ?kXZ9 ?kNZ9 ?kTZ9 ?kKZ9 ?kDZ9 ?kUZ9 ?_; (case kBZ9 | kFZ9 | kXZ9 | kNZ9 | kTZ9 => k_asm); (case kKZ9 => first | exact rfl | assumption); (case kDZ9 => ktr_room); (case kUZ9 => ktr_units)); intro T'q t1'q t2'q y'q h'q tk'q hy'q F'q N'q o1'q; (try simp only [LCg.Off1, and_true] at o1'q)))
  exact True.intro
theorem pieces_of_at (w : World) (news : List (Addr × Obj)) (b : Array UInt8) (chs way z : Str) (t : Tok) (hcs : chs = cA ∨ chs = cL ∨ chs = cU) (hw : way = wQ ∨ way = wB) (hb : KBw.bInts b = fr chs way (pay way (ens chs z))) (h75 : (fr chs way (pay way (ens chs z))).length ≤ 75) (hn : z.length ≤ 64) (hz : ∀ c ∈ txI z, Sg c ∧ has chs c = true) : CG w 9 335 [.bytes b t] news (RPC news z) := by
  have h61 : (fr chs way (pay way (ens chs z))).getD (Int.toNat 0) 0 = 61 := rfl
  have hlen : 1 ≤ (fr chs way (pay way (ens chs z))).length := by rw [fr_len]; omega
  generalize hks : fr chs way (pay way (ens chs z)) = ks at *
  replace hks := Kp.mk hks
  w_top off
  intro mean mg mb dp un gd cn cs a ccd cl outer A₀ base h₀ L m s Q E B F X N T hk hd hu hret
  refine wpAny_call ?_
  k_dflt cell_enter
  (try (refine let_AE ?_; intro A9q e9q)); (try ((with_reducible rename Fr _ _ _ _ => F9q); refine let_m F9q ?_; clear F9q; intro m9q F'))
  have hmkW91 : OwnW := True.intro
  k_with "exec While Compare cons nil" => (guard_hyp hmkW91; k_dflt (refine' lp_whileG (σ := Bool × List Value × Nat × Tok × Tok × List (Addr × Obj)) (fun c => (_, listOf c.2.1.toArray c.2.2.1) :: (c.2.2.2.2.2 ++ news)) (fun c => [("at", .int (if c.1 = true then ks.length else 0) c.2.2.2.1), ("begun", .int (if c.1 = true then ks.length else 0) c.2.2.2.2.1)]) ["found"] (fun c => (c.1 = false ∧ c.2.1 = [] ∧ c.2.2.2.2.2 = []) ∨ (c.1 = true ∧ ∃ T1 T2 b1 t1 t2, c.2.1 = [Value.ref T1, Value.ref T2] ∧ c.2.2.2.2.2 = [(T2, tupB true (.str z t2)), (T1, tupB false (.bytes b1 t1))] ∧ KBw.bInts b1 = [] ∧ (∀ p ∈ news, p.1 < T1) ∧ T1 < T2)) (fun c => if c.1 = true then 0 else 1) (false, [], 0, _, _, []) (by k_asm) (by k_asm) (by kst_all) (.inl ⟨rfl, rfl, rfl⟩) (by passes_own) ?_))
  (try k_fold)
  k_steps
  rintro ⟨cb, cv, cn, ca, cg, cx⟩ u h1 tk hP F' N'
  dsimp only at hP F' N'
  rcases hP with ⟨rfl, rfl, rfl⟩ | ⟨rfl, T1, T2, b1, t1, t2, rfl, rfl, hb1, hl1, hl2⟩
  · simp only [List.nil_append] at N'
    simp only [Bool.false_eq_true, if_false] at F'
    (try k_fold)
    (try (refine let_m F' ?_; clear F'; intro m9q F'm))
    k_steps
    · rename (_ = (ks.length : Int)) => hy9
      subst hy9
      rename (_ < _ ∧ _ < _ ∧ _ < _ ∧ AllLt _ _) => h9
      rename (_ < _ ∧ _ < _ ∧ AllLt _ _) => h8
      refine' ksw_end (true, [.ref _, .ref _], _, _, _, [(_, tupB true (.str z _)), (_, tupB false (.bytes _ _))]) ?lpF ?lpN ?lpn trivial ?lpk ?lpr ?_ ?_
      (case lpF => k_asm)
      (case lpN => k_asm)
      (case lpn => kcf_all)
      (case lpk => first | exact List.forall_mem_nil _ | kst_all)
      (case lpr => (intro z9 h92 h93; first | ((repeat (with_reducible refine lz_cond ?n9 ?_; (case n9 => first | exact lz_sto h93 rfl | exact lz_ps h92 rfl))); refine' (lz_off ?n9).trans ?_; (case n9 => first | exact lz_all h92 rfl | exact List.forall_mem_nil _); exact if_neg (lz_ns h93)) | ((try simp only [List.mem_cons, List.not_mem_nil, or_false, forall_eq, forall_eq_or_imp] at h92); first | (simp [kstB, h92]; done) | (simp_all [kstB]; done))))
      · refine .inr ⟨rfl, _, _, _, _, _, rfl, rfl, ?_, allLt_mem _ h8.2.2, h9.1⟩
        assumption
      · exact Nat.zero_lt_one
    all_goals exact absurd h61 (by assumption)
  · simp only [List.cons_append, List.nil_append] at N'
    simp only [if_true] at F'
    (try k_fold)
    (try (refine let_m F' ?_; clear F'; intro m9q F'm))
    k_steps
    refine' hret _ _ _ _ _ _ _ _ _ _ _ _ hb1 ?cB ?cF ?cN hl1 hl2 ?c1 ?c2
    (case cF => k_asm)
    (case cN => first | k_asm | (refine' cb_drop ?cbN ?cbS; (case cbN => assumption); (case cbS => kcj_all)))
    (case cB => (rename (KBw.bInts _ = List.drop _ _) => e9; rw [e9]; exact List.drop_eq_nil_of_le (by omega)))
    · (rename (_ < _ ∧ _ < _ ∧ _ < _ ∧ AllLt _ _) => h9; exact h9.2.1)
    · (rename (_ < _ ∧ _ < _ ∧ _ < _ ∧ _ < _ ∧ _ < _ ∧ AllLt _ _) => h9; exact h9.2.1)
theorem layW94 : True := by
  k_with "my call ref" => ((k_here; (with_reducible show wpAny _ _ (PySem.call (Value.ref 335) _) _ _ _); k_dflt (refine' called (pieces_of_at _ _ _ _ _ _ _ (by with_reducible assumption) (by with_reducible assumption) (by with_reducible assumption) (by with_reducible assumption) (by omega) (by with_reducible assumption)) ?kBZ9 ?kFZ9 ?kXZ9 ?kNZ9 ?kTZ9 ?kKZ9 ?kDZ9 ?kUZ9 ?_; (case kBZ9 | kFZ9 | kXZ9 | kNZ9 | kTZ9 => k_asm); (case kKZ9 => first | exact rfl | assumption); (case kDZ9 => ktr_room); (case kUZ9 => ktr_units)); intro D'q T1'q T2'q T3'q n'q b1'q b3'q t1'q t2'q t3'q h'q tk'q kb1'q kb3'q F'q N'q l1'q l2'q l3'q l4'q))
  exact True.intro

theorem decoded_words_at (w : World) (news : List (Addr × Obj)) (b : Array UInt8) (chs way z : Str) (t : Tok) (hcs : chs = cA ∨ chs = cL ∨ chs = cU) (hw : way = wQ ∨ way = wB) (hb : KBw.bInts b = fr chs way (pay way (ens chs z))) (h75 : (fr chs way (pay way (ens chs z))).length ≤ 75) (hn : z.length ≤ 64) (hz : ∀ c ∈ txI z, Sg c ∧ has chs c = true) : CG w 10 347 [.bytes b t] news (RS news z) := by
  w_top off
  intro mean mg mb dp un gd cn cs a ccd cl outer A₀ base h₀ L m s Q E B F X N T hk hd hu hret
  refine wpAny_call ?_
  k_dflt cell_enter
  (try (refine let_AE ?_; intro A9q e9q)); (try ((with_reducible rename Fr _ _ _ _ => F9q); refine let_m F9q ?_; clear F9q; intro m9q F'))
  have hmkW101 : OwnW := True.intro
  k_with "pyIter ref" => (guard_hyp hmkW101; k_dflt (refine' lp_range (n := 3) (σ := List Value × Nat) (fun c => listOf c.1.toArray c.2) (fun c => []) ["is_word", "worth"] (fun i c => StrsAre c.1 ([eS, z, eS].take i)) ([], 0) rfl (by assumption) (by decide) (by decide) (by k_asm) (by k_asm) (fun _ hp => nomatch hp) .nil ?_ ?_))
  (try k_fold)
  k_steps
  · rintro i k t2 c u h1 tk2 own hi2 hk2 hoff hJ F' N'
    obtain ⟨cv, cn⟩ := c
    dsimp only at hJ F' N'
    match i, hi2, hk2, hJ with
    | 0, _, hk2, hJ =>
      subst hk2
      cases hJ
      simp only [List.cons_append] at N'
      (try k_fold)
      (try (refine let_m F' ?_; clear F'; intro m9q F'm))
      k_steps
      refine' lp_end (_, _) ?lpF ?lpN ?lpn ?lpo ?lpa ?lpk ?lpr ?_
      (case lpF => k_asm)
      (case lpN => k_asm)
      (case lpn => kcf_all)
      (case lpo => kcf_all)
      (case lpa => exact rfl)
      (case lpk => first | exact List.forall_mem_nil _ | kst_all)
      (case lpr => (intro z9 h91 h92 h93; first | ((repeat (with_reducible refine lz_cond ?n9 ?_; (case n9 => first | exact h91 | exact lz_sto h93 rfl | exact lz_ps h92 rfl))); refine' (lz_off ?n9).trans ?_; (case n9 => first | exact lz_all h92 rfl | exact List.forall_mem_nil _); exact if_neg (lz_ns h93)) | ((try simp only [List.mem_cons, List.not_mem_nil, or_false, forall_eq, forall_eq_or_imp] at h92); first | (simp only [h91, if_false, kstB]; done) | (simp [kstB, h91, h92]; done) | (simp_all [kstB]; done))))
      exact strs_snoc .nil _ _
    | 1, _, hk2, hJ =>
      subst hk2
      simp only [List.cons_append] at N'
      have hl9 := hJ.len_eq
      (try k_fold)
      (try (refine let_m F' ?_; clear F'; intro m9q F'm))
      k_steps
      refine' lp_end (_, _) ?lpF ?lpN ?lpn ?lpo ?lpa ?lpk ?lpr ?_
      (case lpF => k_asm)
      (case lpN => k_asm)
      (case lpn => kcf_all)
      (case lpo => kcf_all)
      (case lpa => exact rfl)
      (case lpk => first | exact List.forall_mem_nil _ | kst_all)
      (case lpr => (intro z9 h91 h92 h93; first | ((repeat (with_reducible refine lz_cond ?n9 ?_; (case n9 => first | exact h91 | exact lz_sto h93 rfl | exact lz_ps h92 rfl))); refine' (lz_off ?n9).trans ?_; (case n9 => first | exact lz_all h92 rfl | exact List.forall_mem_nil _); exact if_neg (lz_ns h93)) | ((try simp only [List.mem_cons, List.not_mem_nil, or_false, forall_eq, forall_eq_or_imp] at h92); first | (simp only [h91, if_false, kstB]; done) | (simp [kstB, h91, h92]; done) | (simp_all [kstB]; done))))
      dsimp only
      (try rw [List.concat_eq_append])
      exact strs_snoc hJ _ _
    | 2, _, hk2, hJ =>
      subst hk2
      simp only [List.cons_append] at N'
      have hl9 := hJ.len_eq
      (try k_fold)
      (try (refine let_m F' ?_; clear F'; intro m9q F'm))
      k_steps
      refine' lp_end (_, _) ?lpF ?lpN ?lpn ?lpo ?lpa ?lpk ?lpr ?_
      (case lpF => k_asm)
      (case lpN => k_asm)
      (case lpn => kcf_all)
      (case lpo => kcf_all)
      (case lpa => exact rfl)
      (case lpk => first | exact List.forall_mem_nil _ | kst_all)
      (case lpr => (intro z9 h91 h92 h93; first | ((repeat (with_reducible refine lz_cond ?n9 ?_; (case n9 => first | exact h91 | exact lz_sto h93 rfl | exact lz_ps h92 rfl))); refine' (lz_off ?n9).trans ?_; (case n9 => first | exact lz_all h92 rfl | exact List.forall_mem_nil _); exact if_neg (lz_ns h93)) | ((try simp only [List.mem_cons, List.not_mem_nil, or_false, forall_eq, forall_eq_or_imp] at h92); first | (simp only [h91, if_false, kstB]; done) | (simp [kstB, h91, h92]; done) | (simp_all [kstB]; done))))
      dsimp only
      (try rw [List.concat_eq_append])
      exact strs_snoc hJ _ _
  · rintro c u h1 tk2 hJ F' N'
    (try k_fold)
    (try (refine let_m F' ?_; clear F'; intro m9q F'm))
    k_steps
    k_dflt (refine' s_join (ys := [eS, z, eS]) (by is_list) hJ ?_ ?_)
    · have h0 : eS.length = 0 := by decide +kernel
      simp [h0]; omega
    · intro z2 t2 k2 hz2
      (try k_fold)
      (try (refine let_m F' ?_; clear F'; intro m9q F'm))
      k_steps
      refine' gStr (Q := Q) hret ?_ ?cF ?cN
      (case cF => k_asm)
      (case cN => first | k_asm | (refine' cb_drop ?cbN ?cbS; (case cbN => assumption); (case cbS => kcj_all)))
      refine txI_inj (hz2.trans ?_)
      simp [eS_txI]
theorem layW101 : True := by
  k_with "my call ref" => ((k_here; (with_reducible show wpAny _ _ (PySem.call (Value.ref 347) _) _ _ _); k_dflt (refine' called (decoded_words_at _ _ _ _ _ _ _ (by with_reducible assumption) (by with_reducible assumption) (by with_reducible assumption) (by with_reducible assumption) (by omega) (by with_reducible assumption)) ?kBZ9 ?kFZ9 ?kXZ9 ?kNZ9 ?kTZ9 ?kKZ9 ?kDZ9 ?kUZ9 ?_; (case kBZ9 | kFZ9 | kXZ9 | kNZ9 | kTZ9 => k_asm); (case kKZ9 => first | exact rfl | assumption); (case kDZ9 => ktr_room); (case kUZ9 => ktr_units)); intro t'q h'q tk'q F'q N'q))
  exact True.intro

theorem tup_K0 {K : Frag} {h : Heap} {a : Addr} {items : Array Value} {n : Nat} {sl} (X : K.In h) (e : K.lookup a = some ⟨.type "tuple", none, .seq items n, sl⟩) : IsTup h a items := ⟨_, X _ _ e, rfl, n, rfl⟩
section
variable {prog : Program} {w : World} {A : Around} {E : Value → Shared → Prop} {s : Shared} {env : Env} {h₀ : Heap} {target : Expr} {body : List Stmt} {Q : Flow → Shared → Prop} {P : Nat → Value → Prop}
/-- a turn of an unrolled loop over an old tuple, one cell at the ledger's head -/
theorem unr_c {k i : Nat} {m₁ : Str → Option Value} {c I t : Addr} {o : Obj} {nw : List (Addr × Obj)} {items : Array Value} (hI : ∀ a ∈ c :: nw.map (·.1), a < I) (ht : IsTup h₀ t items)
    (h : ∀ v h₁ tk₁ own, P i v → OwnOff own (c :: nw.map (·.1)) → Fr h₀ env.locals h₁ m₁ → News h₀ env.locals h₁ ((c, o) :: (nw ++ own)) →
      wpAny (model prog w) A (assign target env v) (fun _ s₂ => wpAny (model prog w) A (execs body env)
        (LoopStep3 h₀ env.locals own ((c, o) :: nw) (Unr prog w A E h₀ env target body Q P [I, t] s k (i + 1)) { s with heap := h₁, toks := tk₁ } (fun v s' => Q (.ret v) s') fun s' => Q .next s') E s₂) E { s with heap := h₁, toks := tk₁ }) :
    Unr prog w A E h₀ env target body Q P [I, t] s (k + 1) i m₁ ((c, o) :: nw) := by
  refine Unr.succ fun v h₁ tk₁ own hP hO F N => h v h₁ tk₁ own hP ?_ F ?_
  · intro p hp b hb hpb
    rcases List.mem_cons.mp (hO p hp) with e | e
    · exact absurd (hI b hb) (by rw [← hpb, e]; exact Nat.lt_irrefl _)
    · have hn := (N p (List.mem_append_left _ hp)).2.2
      rw [List.mem_singleton.mp e] at hn
      obtain ⟨_, e2, _⟩ := ht
      rw [hn] at e2; cases e2
  · intro p hp
    refine N p ?_
    simp only [List.mem_cons, List.mem_append] at hp ⊢
    rcases hp with h | h | h <;> simp [h]
theorem unr_e {L c : Addr} {own nw : List (Addr × Obj)} {o o' : Obj} {s₁ : Shared} {h' : Heap} {tk : Nat} {m' : Str → Option Value} {Jn : (Str → Option Value) → List (Addr × Obj) → Prop} {Qr : Value → Shared → Prop} {Qb : Shared → Prop} (F : Fr h₀ L h' m') {d₁ d₂ : Addr × Obj} (N : News h₀ L h' (d₁ :: d₂ :: (c, o') :: (nw ++ own))) (q : Jn m' ((c, o') :: nw)) :
    LoopStep3 h₀ L own ((c, o) :: nw) Jn s₁ Qr Qb .next { s₁ with heap := h', toks := tk } :=
  LoopStep3.next (LoopStep2.intro (news₂ := (c, o') :: nw) F (fun p hp => N p (by simp only [List.mem_cons, List.mem_append] at hp ⊢; rcases hp with h | h | h <;> simp [h])) rfl q)
end
section
variable {prog : Program} {w : World} {A : Around} {E : Value → Shared → Prop} {s : Shared} {h₀ : Heap} {L : Addr} {m : Str → Option Value} {env : Env} {elt ct iter : Expr} {x : Str} {scope : Scope} {cl : List (Str × Addr)} {n : Nat} {nw : List (Addr × Obj)} {Fin : Shared → List Value → List (Addr × Obj) → Prop}
theorem cpT_strC {z : Str} {tz : Tok} (J : Nat → List Value → Prop)
    (hh : A.handled = none) (hsz : z.cps.size ≤ 16777216) (F : Fr h₀ L s.heap m) (N : News h₀ L s.heap nw) (hj : J 0 [])
    (turn : Hold (∀ (i : Nat) (k : Nat) (t : Tok) ys I oI C oC D m₂ h tk (E' : Value → Shared → Prop), z.cps[i]? = some k → J i ys → LCg.NsObj oC m₂ → m₂ x = some (.str ⟨#[k]⟩ t) → Fr h₀ L h m → News h₀ L h ((I, oI) :: (C, oC) :: (D, LCg.lst ys) :: nw) → LCg.Off3 I C D nw → ((@Ne Nat I C) ∧ (@Ne Nat I D) ∧ (@Ne Nat C D)) →
      wpAny (model prog w) A (isTrue ct (compEnvC scope cl C env) (eval ct (compEnvC scope cl C env))) (fun ok s' => if ok = true then
        wpAny (model prog w) A (eval elt (compEnvC scope cl C env)) (LCg.CompEnd h₀ L m { s with heap := h, toks := tk } I oI C oC D (LCg.lst ys) AnySrc (fun y news' => ∃ _ : Unit, news' = nw ∧ J (i + 1) (ys ++ [y]))) E' s'
        else LCg.CompEnd h₀ L m { s with heap := h, toks := tk } I oI C oC D (LCg.lst ys) AnySrc (fun _ news' => ∃ _ : Unit, news' = nw ∧ J (i + 1) ys) Value.none s') E' { s with heap := h, toks := tk }))
    (fin : Hold (∀ g ys, J z.cps.size ys → Fin { s with heap := g } ys nw)) :
    wpAny (model prog w) A (pyIter (.str z tz)) (CpT prog w A h₀ L m env ct elt x scope cl Fin) E s :=
  cpT_str (σ := Unit) (fun _ => nw) (fun i _ ys => J i ys) () hh hsz F N hj (fun i k t _ => turn i k t) (fun g _ ys => fin g ys)
end
section
variable {prog : Program} {w : World} {A : Around} {E : Value → Shared → Prop} {s : Shared} {a b : Addr} {ys : List Value} {Q : Value → Shared → Prop}
theorem eq_nilB {r : Bool} (hE : ys.isEmpty = r) (ha : s.heap.IsList a ys.toArray) (hb : s.heap.IsList b #[]) (hu : A.units < cLine) (h : Q (.bool r) s) :
    wpAny (model prog w) A (compareOp .Eq (.ref a) (.ref b)) Q E s := by
  subst hE
  cases ys with
  | nil => exact PySem.SeqAt.eq_listAt (e := fun _ => true) ha hb rfl hu (fun j h1 => absurd h1 (Nat.not_lt_zero _)) h
  | cons y r => exact PySem.SeqAt.eq_list_lengthsAt ha hb (by simp) hu h
end
def LJ (z chs : Str) (i : Nat) (ys : List Value) : Prop := ys.isEmpty = ((txI z).take i).all (has chs)
theorem led_lt {h₀ h : Heap} {L : Addr} {nw : List (Addr × Obj)} (N : News h₀ L h nw) : ∀ a ∈ nw.map (·.1), a < h.objs.size := by
  intro a ha
  obtain ⟨p, hp, rfl⟩ := List.mem_map.mp ha
  exact Heap.lt_size (N p hp).1
theorem LJ_end {z chs : Str} {ys : List Value} (h : LJ z chs z.cps.size ys) : ys.isEmpty = (txI z).all (has chs) := by
  unfold LJ at h
  rw [List.take_of_length_le (show (txI z).length ≤ z.cps.size from Nat.le_of_eq (txI_len z))] at h
  exact h
theorem LJ_skip {z chs : Str} {i k : Nat} {ys : List Value} (h : LJ z chs i ys) (hk : (txI z)[i]? = some (k : Int)) (hh : has chs k = true) : LJ z chs (i + 1) ys := by
  unfold LJ at *
  rw [List.take_add_one, hk, h]
  simp [hh]
theorem LJ_keep {z chs : Str} {i k : Nat} {ys : List Value} {y : Value} (hk : (txI z)[i]? = some (k : Int)) (hh : has chs k = false) : LJ z chs (i + 1) (ys ++ [y]) := by
  unfold LJ at *
  rw [List.take_add_one, hk]
  simp [hh]
theorem txI_cps {z : Str} {i k : Nat} (h : z.cps[i]? = some k) : (txI z)[i]? = some (k : Int) := by
  unfold txI
  simp [h]
theorem news_sub {h₀ h : Heap} {L : Addr} {nw nw' : List (Addr × Obj)} (N : News h₀ L h nw) (hs : ∀ p ∈ nw', p ∈ nw) : News h₀ L h nw' := fun p hp => N p (hs p hp)
abbrev RBest (z : Str) (news : List (Addr × Obj)) : Cont := fun h₀ L m s Q _ => ∀ (chs : Str) (t' : Tok) (h' : Heap) (tk' : Nat), (chs = cA ∨ chs = cL ∨ chs = cU) → (∀ c ∈ txI z, has chs c = true) → Fr h₀ L h' m → News h₀ L h' news → Q (.str chs t') { s with heap := h', toks := tk' }
theorem layL11 : True := by
  k_with "my compareOp Eq ref ref" => ((guard_hyp hmkL1); (k_here; k_dflt (refine' eq_nilB (by with_reducible assumption) (by is_list) (by is_list) (by first | ke_room | (simp only [A9q]; ke_room)) ?_)))
  exact True.intro

theorem best_charset_at (w : World) (news : List (Addr × Obj)) (z : Str) (t : Tok) (hn : z.length ≤ 64) (hz : ∀ c ∈ txI z, Cod c) : CG w 4 210 [.str z t] news (RBest z news) := by
  have hmkL1 : OwnW := True.intro
  w_top off
  intro mean mg mb dp un gd cn cs a ccd cl outer A₀ base h₀ L m s Q E B F X N T hk hd hu hret
  refine wpAny_call ?_
  k_dflt (refine' code_defC ?k1 ?k2 ?k3 ?k4 ?k5 ?kA ?kF ?kK ?k6 ?k7 ?k8 ?k9 ?kB ?kD ?_ ?c2 ?c3 ?c4; (case kA => exact rfl); (case kF => exact rfl); (case kK => assumption); (case k1 => k_asm); (case k2 => k_asm); (case k3 => k_asm); (case k4 => k_asm); (case k5 => k_asm); (case k6 => k_is); (case k7 => k_is); (case k8 => ktr_room); (case k9 => exact BindsTo.of_eq rfl); (case kB => exact rfl); (case kD => decide +kernel); (case c2 => exact rfl); (case c3 => exact rfl); (case c4 => exact rfl); k_whole)
  intro g' L' h' tk' cells' FG' F' N' Y' B' X' T' l1
  obtain ⟨oA, hE, dA⟩ := CellsAre.one Y'; subst hE; clear Y'
  (try simp only [List.cons_append, List.nil_append] at N'); (try dsimp only); (try k_lift B'); (try k_fold); (try (refine let_AE ?_; intro A9q e9q)); (try ((with_reducible rename Fr _ _ _ _ => F9q); refine let_m F9q ?_; clear F9q; intro m9q F'))
  have hMC : MyComp := True.intro
  have hmkL11 : OwnW := True.intro
  k_with "pyIter str" => (guard_hyp hmkL11; k_dflt (refine' (id : Hold _ → _) ?_))
  (try k_fold)
  k_steps
  have hI9 : ∀ a ∈ (L' + 1) :: news.map (·.1), a < h'.objs.size := led_lt (nw := (L' + 1, oA) :: news) (by assumption)
  refine' Iter_tuple_unr ?hh ?ht ?F ?N ?htL ?_
  (case hh => rfl)
  (case F => k_asm)
  (case N => k_asm)
  (case ht => exact tup_K (by assumption) X' rfl)
  (case htL => exact Fr.old_ne (by assumption) (tup_K0 X' rfl))
  refine' unr_c hI9 (tup_K0 X' rfl) ?_
  intro v h1 tk1 own1 hP hO1 F1 N1
  obtain rfl : v = Value.str cA 332 := (Option.some.inj hP).symm
  have hmkL12 : OwnW := True.intro
  k_with "pyIter str" => (guard_hyp hmkL12; k_dflt (refine' cpT_strC (LJ z cA) rfl (by show Str.length _ ≤ _; omega) (by k_asm) (by k_asm) rfl ?_ ?_))
  k_steps
  · intro i k t2 ys I oI C oC D m2 h2 tk2 E2 hk2 hJ hC hx F2 N2 off2 ne2
    have hk3 := txI_cps hk2
    have hc2 := hz _ (List.mem_of_getElem? hk3)
    k_steps
    all_goals
      refine' LCg.CompEnd.intro ?lpF ?lpN _ ?lpa ?lpo ?lps ⟨(), rfl, ?_⟩
      (case lpF => k_asm)
      (case lpN => k_asm)
      (case lpa => kcf_all)
      (case lpo => first | assumption | (simp only [LCg.Off3, and_true]; done) | (simp only [LCg.Off3, and_true]; assumption))
      (case lps => first | trivial | assumption | lcg_src | exact (Or.inr ⟨_, List.mem_cons_self, rfl, _, rfl⟩))
    all_goals first | exact LJ_skip hJ hk3 (by assumption) | exact LJ_keep hk3 (by assumption)
  intro g ys hJ
  replace hJ := LJ_end hJ
  cases hE : (txI z).all (has cA)
  all_goals rw [hE] at hJ
  rotate_left
  · k_steps
    refine' hret cA _ _ _ (Or.inl rfl) (fun c hc => List.all_eq_true.mp hE c hc) ?cF ?cN
    (case cF => k_asm)
    (case cN => refine news_sub (by with_reducible assumption) ?_; intro p hp; simp [hp])
  k_steps
  refine' unr_e ?uF ?uN ?_
  (case uF => k_asm)
  (case uN => first | assumption | k_asm)
  clear hJ hE hP hO1 F1 N1
  refine' unr_c hI9 (tup_K0 X' rfl) ?_
  intro v h1 tk1 own1 hP hO1 F1 N1
  obtain rfl : v = Value.str cL 334 := (Option.some.inj hP).symm
  have hmkL13 : OwnW := True.intro
  k_with "pyIter str" => (guard_hyp hmkL13; k_dflt (refine' cpT_strC (LJ z cL) rfl (by show Str.length _ ≤ _; omega) (by k_asm) (by k_asm) rfl ?_ ?_))
  k_steps
  · intro i k t2 ys I oI C oC D m2 h2 tk2 E2 hk2 hJ hC hx F2 N2 off2 ne2
    have hk3 := txI_cps hk2
    have hc2 := hz _ (List.mem_of_getElem? hk3)
    k_steps
    all_goals
      refine' LCg.CompEnd.intro ?lpF ?lpN _ ?lpa ?lpo ?lps ⟨(), rfl, ?_⟩
      (case lpF => k_asm)
      (case lpN => k_asm)
      (case lpa => kcf_all)
      (case lpo => first | assumption | (simp only [LCg.Off3, and_true]; done) | (simp only [LCg.Off3, and_true]; assumption))
      (case lps => first | trivial | assumption | lcg_src | exact (Or.inr ⟨_, List.mem_cons_self, rfl, _, rfl⟩))
    all_goals first | exact LJ_skip hJ hk3 (by assumption) | exact LJ_keep hk3 (by assumption)
  intro g ys hJ
  replace hJ := LJ_end hJ
  cases hE : (txI z).all (has cL)
  all_goals rw [hE] at hJ
  rotate_left
  · k_steps
    refine' hret cL _ _ _ (Or.inr (Or.inl rfl)) (fun c hc => List.all_eq_true.mp hE c hc) ?cF ?cN
    (case cF => k_asm)
    (case cN => refine news_sub (by with_reducible assumption) ?_; intro p hp; simp [hp])
  k_steps
  refine' unr_e ?uF ?uN ?_
  (case uF => k_asm)
  (case uN => first | assumption | k_asm)
  clear hJ hE hP hO1 F1 N1
  refine' unr_c hI9 (tup_K0 X' rfl) ?_
  intro v h1 tk1 own1 hP hO1 F1 N1
  obtain rfl : v = Value.str cU 336 := (Option.some.inj hP).symm
  have hmkL14 : OwnW := True.intro
  k_with "pyIter str" => (guard_hyp hmkL14; k_dflt (refine' cpT_strC (LJ z cU) rfl (by show Str.length _ ≤ _; omega) (by k_asm) (by k_asm) rfl ?_ ?_))
  k_steps
  · intro i k t2 ys I oI C oC D m2 h2 tk2 E2 hk2 hJ hC hx F2 N2 off2 ne2
    have hk3 := txI_cps hk2
    have hc2 := hz _ (List.mem_of_getElem? hk3)
    k_steps
    all_goals
      refine' LCg.CompEnd.intro ?lpF ?lpN _ ?lpa ?lpo ?lps ⟨(), rfl, ?_⟩
      (case lpF => k_asm)
      (case lpN => k_asm)
      (case lpa => kcf_all)
      (case lpo => first | assumption | (simp only [LCg.Off3, and_true]; done) | (simp only [LCg.Off3, and_true]; assumption))
      (case lps => first | trivial | assumption | lcg_src | exact (Or.inr ⟨_, List.mem_cons_self, rfl, _, rfl⟩))
    all_goals first | exact LJ_skip hJ hk3 (by assumption) | exact LJ_keep hk3 (by assumption)
  intro g ys hJ
  replace hJ := LJ_end hJ
  cases hE : (txI z).all (has cU)
  all_goals rw [hE] at hJ
  rotate_left
  · k_steps
    refine' hret cU _ _ _ (Or.inr (Or.inr rfl)) (fun c hc => List.all_eq_true.mp hE c hc) ?cF ?cN
    (case cF => k_asm)
    (case cN => refine news_sub (by with_reducible assumption) ?_; intro p hp; simp [hp])
  exfalso
  have h9 : (txI z).all (has cU) = true := List.all_eq_true.mpr fun c _ => rfl
  rw [h9] at hE; cases hE

theorem news_d2 {h₀ h : Heap} {L : Addr} {nw : List (Addr × Obj)} {x y z : Addr × Obj} (N : News h₀ L h (x :: y :: z :: nw)) : News h₀ L h (x :: y :: nw) := by
  intro p hp
  refine N p ?_
  simp only [List.mem_cons] at hp ⊢
  rcases hp with h | h | h <;> simp [h]
theorem ints_at {vs : List Value} {ns : List Int} (h : IntsAre vs ns) {i : Nat} {v : Value} (e : vs[i]? = some v) : ∃ n t, ns[i]? = some n ∧ v = .int n t := by
  have hl := h.length
  have hi : i < ns.length := by rw [← hl]; exact (List.getElem?_eq_some_iff.mp e).1
  obtain ⟨t, ht⟩ := h.get i _ (List.getElem?_eq_getElem hi)
  rw [e] at ht
  exact ⟨_, t, List.getElem?_eq_getElem hi, Option.some.inj ht⟩
theorem law_pen_at (w : World) (news : List (Addr × Obj)) (ad : Addr) (vs : List Value) (ns : List Int) (hI : IntsAre vs ns) (hn : ns.length ≤ 63) : CG w 1 352 [.ref ad] news (fun h₀ L m s Q _ => h₀.IsList ad vs.toArray ∧ ∀ (r p : Addr) (ws : List Value) (t1 t2 : Tok) (h' : Heap) (tk' : Nat), IntsAre ws (ns.take 40) → Fr h₀ L h' m → News h₀ L h' ((p, listOf #[.ref r, .int 0 t1, .int 0 t2] 0) :: (r, LCg.lst ws) :: news) → LCg.Off1 r news → (r < p ∧ AllLt p news) → Q (.ref p) { s with heap := h', toks := tk' }) := by
  w_top off
  intro mean mg mb dp un gd cn cs a ccd cl outer A₀ base h₀ L m s Q E B F X N T hk hd hu hret
  refine wpAny_call ?_
  k_dflt cell_enter
  (try (refine let_AE ?_; intro A9q e9q)); (try ((with_reducible rename Fr _ _ _ _ => F9q); refine let_m F9q ?_; clear F9q; intro m9q F'))
  obtain ⟨hl, hret⟩ := hret
  rename Fr h₀ L _ m => FG9
  have hl1 := hl.at (fun o e => FG9.keep _ _ e)
  clear hl
  have hMC : MyComp := True.intro
  have hmkL21 : OwnW := True.intro
  k_with "pyIter ref" => (guard_hyp hmkL21; k_dflt (refine' cpU_listC (fun i ys => IntsAre ys ((ns.take 40).take i)) (by k_asm) (by k_asm) (Or.inr ⟨_, List.mem_cons_self, rfl, _, rfl⟩) rfl ?hsz .nil ?_ ?_))
  (try k_fold)
  k_steps
  · intro i v ys2 I oI C oC D m₂ h1 tk E' hi hJ2 hC hx F2 N2 off ne
    rename IntsAre _ (List.take 40 ns) => hI9
    obtain ⟨n9, t9, hn9, rfl⟩ := ints_at hI9 (by simpa using hi)
    (try k_fold)
    k_steps
    refine' LCg.CompEnd.intro ?lpF ?lpN _ ?lpa ?lpo ?lps ⟨(), rfl, ?_⟩
    (case lpF => k_asm)
    (case lpN => k_asm)
    (case lpa => kcf_all)
    (case lpo => first | assumption | (simp only [LCg.Off3, and_true]; done) | (simp only [LCg.Off3, and_true]; assumption))
    (case lps => first | trivial | assumption | lcg_src | exact (Or.inr ⟨_, List.mem_cons_self, rfl, _, rfl⟩))
    rw [List.take_add_one, hn9]
    exact ints_snoc' hJ2 _ _
  · intro g ys2 hJ2
    rename IntsAre _ (List.take 40 ns) => hI9
    have hl9 := hI9.length
    rw [List.size_toArray, hl9, List.take_length] at hJ2
    (try k_fold)
    k_steps
    refine' hret _ _ _ _ _ _ _ hJ2 ?cF ?cN ?cO ?cP
    (case cF => k_asm)
    (case cN => exact news_d2 (by with_reducible assumption))
    (case cO => (rename _ ∧ LCg.Off1 _ _ => h9; exact h9.2))
    (case cP => (rename _ ∧ _ ∧ AllLt _ _ => h9; exact ⟨h9.1, h9.2.2⟩))

theorem layM11 : True := by
  k_with "my binaryOp Add bytes bytes" => ((guard_hyp hmkM1); (k_here; (try dsimp only); k_dflt (refine' KBy.add_bytes ?hzZ9 ?_; (case hzZ9 => (simp only [Array.size_append, List.size_toArray, List.length_cons, List.length_nil]; omega))); intro t'q k'q))
  exact True.intro

theorem mk_end {ks : List Int} {i : Nat} {k : Int} {c x y : Array UInt8} (hi : ks[i]? = some k) (hJ : KBw.bInts c = (ks.take i).flatMap qenc) (hx : KBw.bInts x = qenc k) (hy : y = c ++ x) : KBw.bInts y = (ks.take (i + 1)).flatMap qenc := by
  subst hy
  rw [List.take_add_one, hi, Option.toList_some, List.flatMap_append, List.flatMap_cons, List.flatMap_nil, List.append_nil]
  exact KBw.ints_app hJ hx
abbrev marks (c : Nat) : Bool := (Builtin.Str.occurrences (Str.ofString "!*+-/") { cps := #[c] } 0 (Str.ofString "!*+-/").length 1).isEmpty
theorem qe_aln : ∀ c : Nat, c < 128 → Txt.isalnum ⟨#[c]⟩ = true → qenc (c : Int) = [(c : Int)] := by decide +kernel
theorem qe_mark : ∀ c : Nat, c < 128 → Txt.isalnum ⟨#[c]⟩ = false → marks c = false → qenc (c : Int) = [(c : Int)] := by decide +kernel
theorem qe_other : ∀ c : Nat, c < 128 → Txt.isalnum ⟨#[c]⟩ = false → marks c = true → c ≠ 32 → qenc (c : Int) = [61, hx ((c : Int) / 16), hx ((c : Int) % 16)] := by decide +kernel
theorem qe_high : ∀ c : Nat, c < 256 → ¬ c < 128 → qenc (c : Int) = [61, hx ((c : Int) / 16), hx ((c : Int) % 16)] := by decide +kernel
theorem law_marked_at (w : World) (news : List (Addr × Obj)) (b : Array UInt8) (ks : List Int) (t : Tok) (hb : KBw.bInts b = ks) (hn : ks.length ≤ 64) : CG w 1 373 [.bytes b t] news (RB news (ks.flatMap qenc)) := by
  have hmkM1 : OwnW := True.intro
  w_top off
  intro mean mg mb dp un gd cn cs a ccd cl outer A₀ base h₀ L m s Q E B F X N T hk hd hu hret
  refine wpAny_call ?_
  k_dflt cell_enter
  (try (refine let_AE ?_; intro A9q e9q)); (try ((with_reducible rename Fr _ _ _ _ => F9q); refine let_m F9q ?_; clear F9q; intro m9q F'))
  have hmkM11 : OwnW := True.intro
  k_with "pyIter bytes" => (guard_hyp hmkM11; k_dflt (refine' lp_bytesG (σ := Array UInt8 × Tok) (fun _ => news) (fun c => [("found", .bytes c.1 c.2)]) ["sign"] (fun i c => KBw.bInts c.1 = (ks.take i).flatMap qenc ) (#[], _) hb rfl (by k_asm) (by k_asm) (by kst_all) rfl ?_ ?_))
  (try k_fold)
  k_steps
  · intro i k t c u h1 tk own hi h0 h1 hoff hJ F' N'
    have hil : i < ks.length := (List.getElem?_eq_some_iff.mp hi).1
    have hz : c.1.size ≤ 3 * i := by
      rw [← KBw.ints_length, hJ]
      have := flatMap_le qenc 3 (ks.take i) (fun a _ => by unfold qenc; split <;> (try split) <;> simp)
      rw [List.length_take] at this; omega
    have q0 : 0 ≤ k / 16 := Int.ediv_nonneg h0 (by decide)
    have q1 : k / 16 < 16 := Int.ediv_lt_of_lt_mul (by decide) h1
    have r0 : 0 ≤ k % 16 := Int.emod_nonneg k (by decide)
    have r1 : k % 16 < 16 := Int.emod_lt_of_pos k (by decide)
    have hin9 : ∀ n ∈ [hx (k / 16), hx (k % 16)], 0 ≤ n ∧ n < 256 := by
      intro n hn
      rcases List.mem_cons.mp hn with rfl | hn
      · exact ⟨Int.le_trans (by decide) (hx_byte q0 q1).1, Int.lt_trans (hx_byte q0 q1).2 (by decide)⟩
      · rw [List.mem_singleton.mp hn]; exact ⟨Int.le_trans (by decide) (hx_byte r0 r1).1, Int.lt_trans (hx_byte r0 r1).2 (by decide)⟩
    have e4 : k.fdiv (2 ^ Int.toNat 4) = k / 16 := Int.fdiv_eq_ediv_of_nonneg _ (by decide)
    have e5 : Builtin.bitAnd k 15 = k % 16 := (kbt_maskF k 4).trans (Int.fmod_eq_emod_of_nonneg _ (by decide))
    (try k_fold)
    (try (refine let_m F' ?_; clear F'; intro m9q F'm))
    k_steps
    · skip
      refine' lp_end (_, _) ?lpF ?lpN ?lpn ?lpo ?lpa ?lpk ?lpr ?_
      (case lpF => k_asm)
      (case lpN => k_asm)
      (case lpn => kcf_all)
      (case lpo => kcf_all)
      (case lpa => exact rfl)
      (case lpk => first | exact List.forall_mem_nil _ | kst_all)
      (case lpr => (intro z9 h91 h92 h93; first | ((repeat (with_reducible refine lz_cond ?n9 ?_; (case n9 => first | exact h91 | exact lz_sto h93 rfl | exact lz_ps h92 rfl))); refine' (lz_off ?n9).trans ?_; (case n9 => first | exact lz_all h92 rfl | exact List.forall_mem_nil _); exact if_neg (lz_ns h93)) | ((try simp only [List.mem_cons, List.not_mem_nil, or_false, forall_eq, forall_eq_or_imp] at h92); first | (simp only [h91, if_false, kstB]; done) | (simp [kstB, h91, h92]; done) | (simp_all [kstB]; done))))
      dsimp only
      refine mk_end hi hJ ?_ rfl
      rename (Int.ofNat (UInt8.toNat _) = k) => hb9
      rename (Txt.isalnum _ = true) => ha9
      have h9 := qe_aln k.toNat ((Int.toNat_lt h0).mpr (by assumption)) ha9
      rw [Int.toNat_of_nonneg h0] at h9
      rw [h9]
      exact congrArg (fun x => [x]) hb9
    · skip
      refine' lp_end (_, _) ?lpF ?lpN ?lpn ?lpo ?lpa ?lpk ?lpr ?_
      (case lpF => k_asm)
      (case lpN => k_asm)
      (case lpn => kcf_all)
      (case lpo => kcf_all)
      (case lpa => exact rfl)
      (case lpk => first | exact List.forall_mem_nil _ | kst_all)
      (case lpr => (intro z9 h91 h92 h93; first | ((repeat (with_reducible refine lz_cond ?n9 ?_; (case n9 => first | exact h91 | exact lz_sto h93 rfl | exact lz_ps h92 rfl))); refine' (lz_off ?n9).trans ?_; (case n9 => first | exact lz_all h92 rfl | exact List.forall_mem_nil _); exact if_neg (lz_ns h93)) | ((try simp only [List.mem_cons, List.not_mem_nil, or_false, forall_eq, forall_eq_or_imp] at h92); first | (simp only [h91, if_false, kstB]; done) | (simp [kstB, h91, h92]; done) | (simp_all [kstB]; done))))
      dsimp only
      refine mk_end hi hJ ?_ rfl
      rename (k = 32) => h9; subst h9; rfl
    · skip
      (k_dflt (refine' KBa.make_K ?kbaF ?kbaN ?kbah ?kbal ?kbai ?_ ?kban ?_; (case kbaF => k_asm); (case kbaN => k_asm); (case kbah => rfl); (case kbal => kba_isList); (case kbai => kba_listInts); (case kban => kba_size)))
      · rw [e4, hx_eq q0 q1, hx_eq r0 r1]; exact hin9
      intro h' t' k' F' N' hin
      have hs2 := congrArg List.length (KBa.ints_make hin)
      rw [KBw.ints_length] at hs2
      simp only [List.length_cons, List.length_nil] at hs2
      have hin2 : KBw.bInts (byteArr _) = [hx (k / 16), hx (k % 16)] := (KBa.ints_make hin).trans (by rw [e4, hx_eq q0 q1, hx_eq r0 r1])
      (try k_fold)
      (try (refine let_m F' ?_; clear F'; intro m9q F'm))
      k_steps
      refine' lp_end (_, _) ?lpF ?lpN ?lpn ?lpo ?lpa ?lpk ?lpr ?_
      (case lpF => k_asm)
      (case lpN => k_asm)
      (case lpn => kcf_all)
      (case lpo => kcf_all)
      (case lpa => exact rfl)
      (case lpk => first | exact List.forall_mem_nil _ | kst_all)
      (case lpr => (intro z9 h91 h92 h93; first | ((repeat (with_reducible refine lz_cond ?n9 ?_; (case n9 => first | exact h91 | exact lz_sto h93 rfl | exact lz_ps h92 rfl))); refine' (lz_off ?n9).trans ?_; (case n9 => first | exact lz_all h92 rfl | exact List.forall_mem_nil _); exact if_neg (lz_ns h93)) | ((try simp only [List.mem_cons, List.not_mem_nil, or_false, forall_eq, forall_eq_or_imp] at h92); first | (simp only [h91, if_false, kstB]; done) | (simp [kstB, h91, h92]; done) | (simp_all [kstB]; done))))
      dsimp only
      refine mk_end (x := #[61] ++ _) hi hJ ((KBw.ints_app rfl hin2).trans ?_) Array.append_assoc
      rename (Txt.isalnum _ = false) => ha9
      rename (List.isEmpty _ = true) => hb9
      have h9 := qe_other k.toNat ((Int.toNat_lt h0).mpr (by assumption)) ha9 hb9 (fun h => absurd ((Int.toNat_of_nonneg h0).symm.trans (congrArg Int.ofNat h)) (by assumption))
      rw [Int.toNat_of_nonneg h0] at h9
      exact h9.symm
    · skip
      refine' lp_end (_, _) ?lpF ?lpN ?lpn ?lpo ?lpa ?lpk ?lpr ?_
      (case lpF => k_asm)
      (case lpN => k_asm)
      (case lpn => kcf_all)
      (case lpo => kcf_all)
      (case lpa => exact rfl)
      (case lpk => first | exact List.forall_mem_nil _ | kst_all)
      (case lpr => (intro z9 h91 h92 h93; first | ((repeat (with_reducible refine lz_cond ?n9 ?_; (case n9 => first | exact h91 | exact lz_sto h93 rfl | exact lz_ps h92 rfl))); refine' (lz_off ?n9).trans ?_; (case n9 => first | exact lz_all h92 rfl | exact List.forall_mem_nil _); exact if_neg (lz_ns h93)) | ((try simp only [List.mem_cons, List.not_mem_nil, or_false, forall_eq, forall_eq_or_imp] at h92); first | (simp only [h91, if_false, kstB]; done) | (simp [kstB, h91, h92]; done) | (simp_all [kstB]; done))))
      dsimp only
      refine mk_end hi hJ ?_ rfl
      rename (Int.ofNat (UInt8.toNat _) = k) => hb9
      rename (Txt.isalnum _ = false) => ha9
      rename (List.isEmpty _ = false) => hc9
      have h9 := qe_mark k.toNat ((Int.toNat_lt h0).mpr (by assumption)) ha9 hc9
      rw [Int.toNat_of_nonneg h0] at h9
      rw [h9]
      exact congrArg (fun x => [x]) hb9
    · skip
      (k_dflt (refine' KBa.make_K ?kbaF ?kbaN ?kbah ?kbal ?kbai ?_ ?kban ?_; (case kbaF => k_asm); (case kbaN => k_asm); (case kbah => rfl); (case kbal => kba_isList); (case kbai => kba_listInts); (case kban => kba_size)))
      · rw [e4, hx_eq q0 q1, hx_eq r0 r1]; exact hin9
      intro h' t' k' F' N' hin
      have hs2 := congrArg List.length (KBa.ints_make hin)
      rw [KBw.ints_length] at hs2
      simp only [List.length_cons, List.length_nil] at hs2
      have hin2 : KBw.bInts (byteArr _) = [hx (k / 16), hx (k % 16)] := (KBa.ints_make hin).trans (by rw [e4, hx_eq q0 q1, hx_eq r0 r1])
      (try k_fold)
      (try (refine let_m F' ?_; clear F'; intro m9q F'm))
      k_steps
      refine' lp_end (_, _) ?lpF ?lpN ?lpn ?lpo ?lpa ?lpk ?lpr ?_
      (case lpF => k_asm)
      (case lpN => k_asm)
      (case lpn => kcf_all)
      (case lpo => kcf_all)
      (case lpa => exact rfl)
      (case lpk => first | exact List.forall_mem_nil _ | kst_all)
      (case lpr => (intro z9 h91 h92 h93; first | ((repeat (with_reducible refine lz_cond ?n9 ?_; (case n9 => first | exact h91 | exact lz_sto h93 rfl | exact lz_ps h92 rfl))); refine' (lz_off ?n9).trans ?_; (case n9 => first | exact lz_all h92 rfl | exact List.forall_mem_nil _); exact if_neg (lz_ns h93)) | ((try simp only [List.mem_cons, List.not_mem_nil, or_false, forall_eq, forall_eq_or_imp] at h92); first | (simp only [h91, if_false, kstB]; done) | (simp [kstB, h91, h92]; done) | (simp_all [kstB]; done))))
      dsimp only
      refine mk_end (x := #[61] ++ _) hi hJ ((KBw.ints_app rfl hin2).trans ?_) Array.append_assoc
      have h9 := qe_high k.toNat ((Int.toNat_lt h0).mpr h1) (fun h => absurd ((Int.toNat_lt h0).mp h) (by assumption))
      rw [Int.toNat_of_nonneg h0] at h9
      exact h9.symm
  · intro c u h1 tk hJ F' N'
    rw [List.take_length] at hJ
    (try k_fold)
    (try (refine let_m F' ?_; clear F'; intro m9q F'm))
    k_steps
    refine' gBytes (Q := Q) hret ?_ ?cF ?cN
    (case cF => k_asm)
    (case cN => first | k_asm | (refine' cb_drop ?cbN ?cbS; (case cbN => assumption); (case cbS => kcj_all)))
    exact hJ

theorem law_room_at (w : World) (news : List (Addr × Obj)) (total : Int) (chs way : Str) (t t1 t2 : Tok) (h0 : 0 ≤ total) (hcs : chs = cA ∨ chs = cL ∨ chs = cU) (hw : way = wQ ∨ way = wB) : CG w 1 380 [.int total t, .str chs t1, .str way t2] news (RI news (7 + chs.length + (if way = wQ then total else 4 * ((total + 2) / 3)))) := by
  have hcl := (cs_len hcs).1
  have e3 := Int.fdiv_eq_ediv_of_nonneg (total + 2) (show (0 : Int) ≤ 3 by decide)
  rcases hw with rfl | rfl
  all_goals
    intro mean mg mb dp un gd cn cs a ccd cl outer A₀ base h₀ L m s Q E B F X N T hk hd hu hret
    refine wpAny_call ?_
    k_dflt cell_enter
    (try (refine let_AE ?_; intro A9q e9q)); (try ((with_reducible rename Fr _ _ _ _ => F9q); refine let_m F9q ?_; clear F9q; intro m9q F'))
    (try k_fold)
    k_steps
    refine' gInt (Q := Q) hret ?_ ?cF ?cN
    (case cF => k_asm)
    (case cN => first | k_asm | (refine' cb_drop ?cbN ?cbS; (case cbN => assumption); (case cbS => kcj_all)))
  · rw [if_pos rfl]
  · rw [if_neg (by decide), e3]

section
section
open Builtin PySem.W
theorem nv_entry : entryFor table "proto.contains_iter" = some Builtin.«proto.contains_iter» := entryFor_of_tree (by kernel_rfl)
theorem nv_plain : plainId "proto.contains_iter" = true := by decide +kernel
theorem nv_look : typeLookup (.type "dict_values") "__contains__" = pure none := by rw [typeLookup_type, builtinLookup_eq_fast]; kernel_rfl
variable {prog : Program} {w : World} {A : Around} {E : Value → Shared → Prop} {I : Addr} {fp wr : List Addr} {n : Nat} {P : Nat → Value → Prop} {St : Nat → Heap → Prop} {R : Result → Shared → Prop}
/-- a value is None or an int -/
def NoI (v : Value) (b : Bool) : Prop := (v = .none ∧ b = true) ∨ (∃ k t, v = .int k t ∧ b = false)
theorem nv_eq {s : Shared} {v : Value} {b : Bool} {Q : Bool → Shared → Prop} (h : NoI v b) (hq : Q b s) : wpAny (model prog w) A (eqBool v .none) Q E s := by
  rcases h with ⟨rfl, rfl⟩ | ⟨k, t, rfl, rfl⟩
  · unfold eqBool
    refine wpAny_holding ?_
    rw [if_pos (by rfl)]
    exact wpAny_bind (wpAny_rule (wpAny_pure hq))
  · unfold eqBool
    refine wpAny_holding ?_
    show wpAny _ _ (if (Value.int k t == Value.none) = true then _ else _) Q E s
    rw [if_neg (by rw [show (Value.int k t == Value.none) = false from rfl]; exact Bool.false_ne_true)]
    refine wpAny_bind ?_
    exact PySem.EqNone.eq_int_none (wpAny_truthy_bool hq)
theorem nv_loop (W : Walks prog w A.in1 I fp wr n P St) (tr : Nat → Bool) (htr : ∀ i v, P i v → NoI v (tr i)) : ∀ (k i : Nat) (s : Shared), n - i = k → i ≤ n → St i s.heap →
    (∀ h' tk, (∀ b o, b ∉ wr → s.heap.get? b = some o → h'.get? b = some o) → R (.ok (.ret (.bool (((List.range n).drop i).any tr)))) { s with heap := h', toks := tk }) →
    codeAny (model prog w) A (.builtin "proto.contains_iter" ⟨[.ref I, .none], []⟩) R s := by
  intro k
  induction k with
  | zero =>
    intro i s hk hi hst hR
    have hin : i = n := nsub0 hk hi
    subst hin
    refine codeAny_builtin nv_entry ?_
    rw [Around.under_plainId nv_plain _]
    show wpAny _ A.in1 (pyNext (.ref I) >>= _) _ _ s
    refine wpAny_bind (W.done s _ _ hst fun h' tk hk' => ?_)
    refine wpAny_bind (wpAny_rule (wpAny_pure ?_))
    have := hR h' tk hk'
    rw [List.drop_of_length_le (by simp)] at this
    exact this
  | succ k ih =>
    intro i s hk hi hst hR
    have hlt : i < n := nsubl hk
    have hd : (List.range n).drop i = i :: (List.range n).drop (i + 1) := by
      rw [List.drop_eq_getElem_cons (by simpa using hlt)]; simp
    refine codeAny_builtin nv_entry ?_
    rw [Around.under_plainId nv_plain _]
    show wpAny _ A.in1 (pyNext (.ref I) >>= _) _ _ s
    refine wpAny_bind (W.item i s _ _ hlt hst fun v h' tk hP hst' hk' => ?_)
    refine wpAny_bind (nv_eq (htr i v hP) ?_)
    cases hb : tr i with
    | false =>
      simp only [Bool.false_eq_true, if_false]
      refine wpAny_pure ⟨plainId_quiet nv_plain _, ih (i + 1) _ (nsub1 hk) hlt hst' fun h'' tk'' hk'' => ?_⟩
      have := hR h'' tk'' fun b o hbw e => hk'' b o hbw (hk' b o hbw e)
      rw [hd, List.any_cons, hb, Bool.false_or] at this
      exact this
    | true =>
      simp only [if_true]
      refine wpAny_bind (wpAny_rule (wpAny_pure ?_))
      have := hR h' tk hk'
      rw [hd, List.any_cons, hb, Bool.true_or] at this
      exact this
end
section
open Builtin PySem.W
variable {prog : Program} {w : World} {A : Around} {E : Value → Shared → Prop} {s : Shared} {h₀ : Heap} {L d v : Addr} {m : Str → Option Value} {news : List (Addr × Obj)} {o : Obj} {kvs : List (Int × Value)} {Q : Value → Shared → Prop}
theorem nv_contains (hh : A.handled = none) (F : Fr h₀ L s.heap m) (N : News h₀ L s.heap news) (hv : (v, { cls := .type "dict_values", data := .fields #[.ref d] }) ∈ news) (hp : (d, o) ∈ news) (hd : o.IsDictOf (PySem.intKind prog w) kvs) (tr : Nat → Bool) (htr : ∀ i k u, kvs[i]? = some (k, u) → NoI u (tr i))
    (h : ∀ h' tk, Fr h₀ L h' m → News h₀ L h' news → Q (.bool (!(List.range kvs.length).any tr)) { s with heap := h', toks := tk }) : wpAny (model prog w) A (compareOp .NotIn .none (.ref v)) Q E s := by
  have hV : s.heap.IsValuesView v d := ⟨_, (N _ hv).1, rfl, rfl⟩
  unfold compareOp
  refine wpAny_bind ?_
  unfold contains
  refine wpAny_holding ?_
  rw [stdlibNamesSay?_of_typeIs hV.typeIs]
  refine wpAny_bind (wpAny_specialOf hV.typeIs nv_look ?_)
  rw [if_neg (by simp)]
  refine wpAny_bind (wpAny_callSpecialUnlessNone?_none hV.typeIs nv_look ?_)
  refine wpAny_bind (wpAny_rule ?_)
  obtain ⟨ep, hat⟩ := (kda_dict N hp hd).dictAt
  refine wpAny_bind (wpAny_tryCatch (wpAny_pyIter_values hV hat ?_))
  have hne : d ≠ s.heap.objs.size := Nat.ne_of_lt hat.lt_size
  have W := Walks.dictValues (prog := prog) (w := w) (A := A.in1) (knd := PySem.intKind prog w) hh s.heap.objs.size d hne kvs ep
  refine wpAny_bind (wpAny_runValue (nv_loop W tr (fun i u hu => Exists.elim hu fun k hk => htr i k u hk) kvs.length 0 _ (Nat.sub_zero _) (Nat.zero_le _) ?_ ?_))
  · exact ⟨⟨_, Heap.get?_push_size _ rfl, rfl, rfl⟩, hat.push _⟩
  · intro h' tk hk'
    have hk : ∀ b o, s.heap.get? b = some o → h'.get? b = some o := fun b o e =>
      hk' b o (fun hI => absurd (Heap.lt_size e) (by rw [List.mem_singleton.mp hI]; exact Nat.lt_irrefl _)) (Heap.get?_push_of_some _ e)
    exact wpAny_pure (wpAny_pure (h h' tk (F.keeps hk) fun p hp => ⟨hk _ _ (N p hp).1, (N p hp).2⟩))
end

end
def joinU : List (List UInt8) → List UInt8
  | [] => []
  | [a] => a
  | a :: c :: r => a ++ (32 :: joinU (c :: r))
def posU : Nat → List (List UInt8) → List Nat
  | _, [] => []
  | _, [_] => []
  | o, a :: c :: r => (o + a.length) :: posU (o + a.length + 1) (c :: r)
theorem joinU_of : ∀ {kss : List (List Int)} {l : List UInt8}, l.map (fun c => (c.toNat : Int)) = joinL [32] kss → kss ≠ [] → ∃ W, l = joinU W ∧ W.map (fun w => w.map fun c => (c.toNat : Int)) = kss
  | [], _, _, h => absurd rfl h
  | [a], l, h, _ => ⟨[l], rfl, by rw [List.map_singleton, h]; rfl⟩
  | a :: c :: r, l, h, _ => by
    have h' : l.map (fun c => (c.toNat : Int)) = a ++ ([32] ++ joinL [32] (c :: r)) := h
    obtain ⟨l1, l2, rfl, h1, h2⟩ := List.map_eq_append_iff.mp h'
    obtain ⟨l3, l4, rfl, h3, h4⟩ := List.map_eq_append_iff.mp h2
    obtain ⟨W, rfl, hW⟩ := joinU_of h4 (List.cons_ne_nil _ _)
    have e3 : l3 = [32] := by
      cases l3 with
      | nil => cases h3
      | cons x t =>
        cases t with
        | nil =>
          have : ((x.toNat : Int)) = 32 := by simpa using h3
          have hx : x = 32 := UInt8.toNat_inj.mp (by have h32 : (32 : UInt8).toNat = 32 := rfl; omega)
          rw [hx]
        | cons y u => simp at h3
    subst e3
    cases W with
    | nil => cases hW
    | cons w W => exact ⟨l1 :: w :: W, rfl, by rw [List.map_cons, h1, hW]⟩
theorem filter_none {l : List Nat} {p : Nat → Bool} (h : ∀ i ∈ l, p i = false) : l.filter p = [] := by
  rw [List.filter_eq_nil_iff]; intro i hi; rw [h i hi]; exact Bool.false_ne_true
theorem posU_filter (l : List UInt8) : ∀ (W : List (List UInt8)) (pre : List UInt8), l = pre ++ joinU W → W ≠ [] → (∀ w ∈ W, (32 : UInt8) ∉ w) → (List.range' pre.length (joinU W).length).filter (fun i => l[i]? == some 32) = posU pre.length W
  | [], _, _, h, _ => absurd rfl h
  | [w], pre, hl, _, hw => by
    refine filter_none fun i hi => ?_
    obtain ⟨h1, h2⟩ := List.mem_range'_1.mp hi
    rw [hl, List.getElem?_append_right h1]
    show ((w : List UInt8)[i - pre.length]? == some 32) = false
    rw [List.getElem?_eq_getElem (by have : (joinU [w]).length = w.length := rfl; omega)]
    simp only [beq_eq_false_iff_ne, ne_eq, Option.some.injEq]
    intro e
    exact hw w (.head _) (e ▸ List.getElem_mem _)
  | a :: c :: r, pre, hl, _, hw => by
    have hj : joinU (a :: c :: r) = a ++ (32 :: joinU (c :: r)) := rfl
    have hlen : (joinU (a :: c :: r)).length = a.length + (1 + (joinU (c :: r)).length) := by rw [hj, List.length_append, List.length_cons]; omega
    have hl2 : l = (pre ++ (a ++ [32])) ++ joinU (c :: r) := by rw [hl, hj]; simp
    have ih := posU_filter l (c :: r) (pre ++ (a ++ [32])) hl2 (List.cons_ne_nil _ _) fun w h => hw w (.tail _ h)
    have hpl : (pre ++ (a ++ [32])).length = pre.length + a.length + 1 := by simp; omega
    rw [hpl] at ih
    rw [hlen, ← List.range'_append_1, List.filter_append, ← List.range'_append_1, List.filter_append, ih]
    have e1 : (List.range' pre.length a.length).filter (fun i => l[i]? == some 32) = [] := by
      refine filter_none fun i hi => ?_
      obtain ⟨h1, h2⟩ := List.mem_range'_1.mp hi
      rw [hl, List.getElem?_append_right h1, hj, List.getElem?_append_left (by omega), List.getElem?_eq_getElem (by omega)]
      simp only [beq_eq_false_iff_ne, ne_eq, Option.some.injEq]
      intro e
      exact hw a (.head _) (e ▸ List.getElem_mem _)
    have e2 : (List.range' (pre.length + a.length) 1).filter (fun i => l[i]? == some 32) = [pre.length + a.length] := by
      rw [List.range'_one, List.filter_cons_of_pos, List.filter_nil]
      rw [hl, List.getElem?_append_right (by omega), hj, List.getElem?_append_right (by omega)]
      have : pre.length + a.length - pre.length - a.length = 0 := by omega
      rw [this]; rfl
    rw [e1, e2]; rfl
theorem occ_one (b : Array UInt8) : Builtin.Bytes.occurrences b #[32] 0 b.size = (List.range b.size).filter (fun i => b.toList[i]? == some 32) := by
  unfold Builtin.Bytes.occurrences
  have key : ∀ n, n ≤ b.size → ∃ m, m ≤ n ∧ ((List.range n).map (· + 0)).foldl (fun (acc : List Nat × Nat) (i : Nat) => if (decide (i ≥ acc.2) && b.extract i (i + (#[32] : Array UInt8).size) == #[32]) = true then (i :: acc.1, i + (#[32] : Array UInt8).size) else acc) ([], 0) = (((List.range n).filter (fun i => b.toList[i]? == some 32)).reverse, m) := by
    intro n
    induction n with
    | zero => intro _; exact ⟨0, Nat.le_refl _, rfl⟩
    | succ n ih =>
      intro hn
      obtain ⟨m, hm, e⟩ := ih (by omega)
      rw [List.range_succ, List.map_append, List.foldl_append, e, List.filter_append]
      have hx : (b.extract n (n + (#[32] : Array UInt8).size) == #[32]) = (b.toList[n]? == some 32) := by
        have h1 : b.extract n (n + (#[32] : Array UInt8).size) = #[b[n]'(by omega)] := by
          apply Array.ext'
          rw [Array.toList_extract]
          show (b.toList.drop n).take (n + 1 - n) = [b[n]'(by omega)]
          rw [Nat.add_sub_cancel_left, List.drop_eq_getElem_cons (by rw [Array.length_toList]; omega)]
          simp
        rw [h1, List.getElem?_eq_getElem (by rw [Array.length_toList]; omega), Array.getElem_toList, Bool.eq_iff_iff]
        simp
      simp only [List.map_singleton, List.foldl_cons, List.foldl_nil, Nat.add_zero]
      rw [hx, decide_eq_true (show n ≥ m from hm), Bool.true_and]
      cases hc : (b.toList[n]? == some 32) with
      | true =>
        rw [if_pos rfl]
        refine ⟨n + 1, Nat.le_refl _, ?_⟩
        rw [List.filter_cons_of_pos (p := fun i => b.toList[i]? == some 32) hc, List.filter_nil, List.reverse_append]; rfl
      | false =>
        rw [if_neg Bool.false_ne_true]
        refine ⟨m, by omega, ?_⟩
        rw [List.filter_cons_of_neg (p := fun i => b.toList[i]? == some 32) (by rw [hc]; exact Bool.false_ne_true), List.filter_nil, List.append_nil]
  obtain ⟨m, _, e⟩ := key b.size (Nat.le_refl _)
  have hs : b.size + 1 - (0 + (#[32] : Array UInt8).size) = b.size := by simp
  rw [hs]
  dsimp only at e ⊢
  rw [e, List.reverse_reverse]
theorem between_words (b : Array UInt8) : ∀ (W : List (List UInt8)) (pre : List UInt8) (P : Array (Array UInt8)), b.toList = pre ++ joinU W → W ≠ [] →
    ((((posU pre.length W).foldl (fun (x : Array (Array UInt8) × Nat) p => (x.1.push (b.extract x.2 p), p + 1)) (P, pre.length)).1.push (b.extract ((posU pre.length W).foldl (fun (x : Array (Array UInt8) × Nat) p => (x.1.push (b.extract x.2 p), p + 1)) (P, pre.length)).2 b.size)).toList.map Array.toList) = P.toList.map Array.toList ++ W
  | [], _, _, _, h => absurd rfl h
  | [w], pre, P, hb, _ => by
    have hs : b.size = b.toList.length := by simp
    show ((P.push (b.extract pre.length b.size)).toList.map Array.toList) = _
    rw [Array.toList_push, List.map_append, List.map_singleton, Array.toList_extract]
    congr 1
    show [(b.toList.drop pre.length).take (b.size - pre.length)] = [w]
    rw [hs, hb, List.drop_left, List.length_append, Nat.add_sub_cancel_left, List.take_length]; rfl
  | a :: c :: r, pre, P, hb, _ => by
    have hb2 : b.toList = (pre ++ (a ++ [32])) ++ joinU (c :: r) := by rw [hb]; show pre ++ (a ++ (32 :: joinU (c :: r))) = _; simp
    have hpl : (pre ++ (a ++ [32])).length = pre.length + a.length + 1 := by simp; omega
    have ih := between_words b (c :: r) (pre ++ (a ++ [32])) (P.push (b.extract pre.length (pre.length + a.length))) hb2 (List.cons_ne_nil _ _)
    rw [hpl] at ih
    refine ih.trans ?_
    rw [Array.toList_push, List.map_append, List.map_singleton, List.append_assoc, Array.toList_extract]
    congr 1
    show ((b.toList.drop pre.length).take (pre.length + a.length - pre.length)) :: _ = _
    rw [hb, List.drop_left, Nat.add_sub_cancel_left]
    congr 1
    show (a ++ _).take a.length = a
    rw [List.take_left]

section
section
open Builtin PySem.W
variable {prog : Program} {w : World} {A : Around} {E : Value → Shared → Prop} {s : Shared} {b : Array UInt8} {t u : Tok}
theorem slot_bytes_split : Slot "bytes" "split" "bytes.split" :=
  .of (owner := "bytes") (n := "split") (by rw [typeLookup_type, builtinLookup_eq_fast]; kernel_rfl) (by decide +kernel) (by decide +kernel) (by decide +kernel)
    (by first | exact .inl (by decide +kernel) | exact .inr (by decide +kernel)) (by rw [isSubtype_type]; kernel_rfl)
theorem type_bytes_split : typeOf (.builtin "bytes.split") = pure (.type "method_descriptor") := by show builtinType _ = _; rw [builtinType_eq_fast]; kernel_rfl
theorem entry_bytes_split : entryFor table "bytes.split" = some Builtin.«bytes.split» := entryFor_of_tree (by kernel_rfl)
theorem args_bytes_split_2 (a b : Value) : argsOk "bytes.split" ⟨[a, b], []⟩ := by
  unfold argsOk; rw [signature?_of (id := "bytes.split") (n := ['t', 'i', 'l', 'p', 's']) (o := ['s', 'e', 't', 'y', 'b']) (by kernel_rfl) FB.owner_bytes]; kernel_rfl
theorem method_bytes_split {M : Model} {pl : Sem Bool} {Q : Value × List Value → Shared → Prop} (h : Q (.builtin "bytes.split", [.bytes b t]) s) : wpAny M A (getMethod (.bytes b t) (Str.ofString "split") pl) Q E s := by
  with_reducible exact KBd.method_of (.bytes b t) (typeIs_bytes _ _ _) slot_bytes_split type_bytes_split KBd.noRef h
/-- values that are bytes, by their arrays -/
theorem mapM_bytes {M : Model} : ∀ (xs : List (Array UInt8)) (s : Shared) (Q : List Value → Shared → Prop), (∀ x ∈ xs, x.size ≤ 16777216) → (∀ vs k, BtsAre vs (xs.map KBw.bInts) → Q vs { s with toks := k }) → wpAny M A (xs.mapM (Bytes.Kind.new .bytes)) Q E s
  | [], s, Q, _, h => by
    rw [List.mapM_nil]; exact wpAny_pure (h [] s.toks .nil)
  | x :: r, s, Q, hx, h => by
    rw [List.mapM_cons]
    refine wpAny_bind (wpAny_mkBytes ?_ (by rw [sizeLine_eq]; exact hx x (.head _)))
    refine wpAny_bind (mapM_bytes r _ _ (fun y hy => hx y (.tail _ hy)) fun vs k hv => ?_)
    exact wpAny_pure (h _ k (.cons rfl hv))
theorem bind_split (v : Value) : Bytes.bindOptional s!"{Bytes.Kind.bytes.name}.{"split"}" "split" ["sep", "maxsplit"] [v] [] = pure [some v, none] := by kernel_rfl
theorem split_words {kss : List (List Int)} (hb : KBw.bInts b = joinL [32] kss) (hne : kss ≠ []) (hw : ∀ ks ∈ kss, (32 : Int) ∉ ks) :
    ((Bytes.between b 1 ((Bytes.occurrences b #[32] 0 b.size).take (b.size + 1))).map KBw.bInts) = kss ∧ (((Bytes.occurrences b #[32] 0 b.size).take (b.size + 1)).isEmpty = true → kss = [KBw.bInts b]) := by
  obtain ⟨W, hW, hk⟩ := joinU_of hb hne
  have hWne : W ≠ [] := by rintro rfl; exact hne hk.symm
  have h32 : ∀ w ∈ W, (32 : UInt8) ∉ w := by
    intro w hw' hm
    refine hw (w.map fun c => (c.toNat : Int)) (hk ▸ List.mem_map.mpr ⟨w, hw', rfl⟩) (List.mem_map.mpr ⟨32, hm, rfl⟩)
  have hs : b.size = (joinU W).length := by rw [← hW]; simp
  have ho : Bytes.occurrences b #[32] 0 b.size = posU 0 W := by
    rw [occ_one, List.range_eq_range', hs]
    exact posU_filter b.toList W [] hW hWne h32
  have ht : (Bytes.occurrences b #[32] 0 b.size).take (b.size + 1) = posU 0 W := by
    rw [← ho]
    refine List.take_of_length_le ?_
    rw [occ_one]
    exact Nat.le_trans (List.length_filter_le _ _) (by simp)
  rw [ht]
  constructor
  · have := between_words b W [] #[] hW hWne
    have e : (Bytes.between b 1 (posU 0 W)).map Array.toList = W := this
    have e2 : (Bytes.between b 1 (posU 0 W)).map KBw.bInts = ((Bytes.between b 1 (posU 0 W)).map Array.toList).map (fun w => w.map fun c => (c.toNat : Int)) := by
      rw [List.map_map]; rfl
    rw [e2, e, hk]
  · intro he
    match W, hWne, hk with
    | [a], _, hk =>
      rw [← hk]
      show [_] = [_]
      congr 1
      unfold KBw.bInts
      rw [hW]; rfl
    | a :: c :: r, _, _ => exact absurd he (by show ¬ (List.isEmpty (_ :: _) = true); exact Bool.false_ne_true)
theorem between_size (b : Array UInt8) (places : List Nat) (w : Nat) : ∀ x ∈ Bytes.between b w places, x.size ≤ b.size := by
  unfold Bytes.between
  have key : ∀ (places : List Nat) (x : Array (Array UInt8) × Nat), (∀ y ∈ x.1.toList, y.size ≤ b.size) → ∀ y ∈ (places.foldl (fun (x : Array (Array UInt8) × Nat) p => (x.1.push (b.extract x.2 p), p + w)) x).1.toList, y.size ≤ b.size := by
    intro places
    induction places with
    | nil => intro x h; exact h
    | cons p r ih =>
      intro x h
      refine ih _ ?_
      intro y hy
      rw [Array.toList_push] at hy
      rcases List.mem_append.mp hy with hy | hy
      · exact h y hy
      · rw [List.mem_singleton.mp hy, Array.size_extract]; exact Nat.le_trans (Nat.sub_le _ _) (Nat.min_le_right _ _)
  intro x hx
  have hx' : x ∈ ((places.foldl (fun (x : Array (Array UInt8) × Nat) p => (x.1.push (b.extract x.2 p), p + w)) (#[], 0)).1.push (b.extract (places.foldl (fun (x : Array (Array UInt8) × Nat) p => (x.1.push (b.extract x.2 p), p + w)) (#[], 0)).2 b.size)).toList := hx
  rw [Array.toList_push] at hx'
  rcases List.mem_append.mp hx' with h | h
  · exact key places (#[], 0) (fun _ h => by simp at h) x h
  · rw [List.mem_singleton.mp h, Array.size_extract]; exact Nat.le_trans (Nat.sub_le _ _) (Nat.min_le_right _ _)
theorem meets_split {kss : List (List Int)} (hb : KBw.bInts b = joinL [32] kss) (hne : kss ≠ []) (hw : ∀ ks ∈ kss, (32 : Int) ∉ ks) (hz : b.size ≤ 16777216) (hz2 : kss.length ≤ 16777216) :
    Meets («bytes.split» ⟨[.bytes b t, .bytes #[32] u], []⟩) (fun _ R s => ∀ vs k, BtsAre vs kss → R (.ok (.ret (.ref s.heap.objs.size))) { s with heap := s.heap.push { cls := .type "list", data := .seq vs.toArray }, toks := k }) := by
  obtain ⟨h1, h2⟩ := split_words hb hne hw
  refine .of_wp fun prog w A R s hS => ?_
  show wpAny _ _ (Bytes.splitM .bytes "split" false ⟨[.bytes b t, .bytes #[32] u], []⟩) _ _ s
  unfold Bytes.splitM
  (try dsimp only)
  refine wpAny_bind (wpAny_of_eq (bind_split _) ?_)
  (try dsimp only)
  refine wpAny_bind (wpAny_pure ?_)
  refine wpAny_bind (wpAny_of_eq (a := b) rfl ?_)
  (try dsimp only)
  refine wpAny_bind ?_
  unfold Bytes.bytesLike
  refine wpAny_bind (wpAny_of_eq KBy.buffer_eq ?_)
  refine wpAny_pure ?_
  rw [if_neg (by decide)]
  rw [if_pos (show ((-1 : Int) < 0) from by decide)]
  simp only [Bool.false_eq_true, if_false]
  split
  · rename_i he
    have e1 := h2 he
    refine wpAny_bind (wpAny_rule ?_)
    refine wpAny_bind ?_
    · unfold Bytes.Kind.same
      rw [if_pos (by rfl)]
      refine wpAny_bind (wpAny_typeOf (typeIs_bytes s b t) ?_)
      rw [if_pos (by rfl)]
      refine wpAny_pure ?_
      refine wpAny_bind (wpAny_newList ?_)
      exact wpAny_pure ⟨_, rfl, hS [.bytes b t] s.toks (by rw [e1]; exact .cons rfl .nil)⟩
  · refine wpAny_bind (mapM_bytes _ _ _ (fun x hx => Nat.le_trans (between_size b _ _ x hx) hz) fun vs k hv => ?_)
    have hv' : BtsAre vs kss := h1 ▸ hv
    refine wpAny_bind (wpAny_newList ?_ (by rw [sizeLine_eq, hv'.length]; exact hz2))
    exact wpAny_pure ⟨_, rfl, hS vs k hv'⟩
theorem bytes_split {h₀ : Heap} {L : Addr} {m : Str → Option Value} {news : List (Addr × Obj)} {kss : List (List Int)} {Q : Value → Shared → Prop} (F : Fr h₀ L s.heap m) (N : News h₀ L s.heap news) (hb : KBw.bInts b = joinL [32] kss) (hne : kss ≠ []) (hw : ∀ ks ∈ kss, (32 : Int) ∉ ks) (hz : b.size ≤ 16777216) (hz2 : kss.length ≤ 16777216)
    (h : ∀ (l : Addr) vs h' tk', BtsAre vs kss → Fr h₀ L h' m → News h₀ L h' ((l, listOf vs.toArray 0) :: news) → (∀ p ∈ news, p.1 < l) → Q (.ref l) { s with heap := h', toks := tk' }) : wpAny (model prog w) A (call (.builtin "bytes.split") [.bytes b t, .bytes #[32] u]) Q E s :=
  call_meets slot_bytes_split (typeIs_bytes _ _ _) entry_bytes_split (args_bytes_split_2 _ _) (meets_split hb hne hw hz hz2) fun vs k hv =>
    h _ vs _ k hv (F.push _) (News.push F N _) fun p hp => Heap.lt_size (N p hp).1
end

end
section
section
open PySem.W PyProof.V
variable {prog : Program} {w : World} {A : Around} {E : Value → Shared → Prop} {s : Shared} {env : Env} {h₀ : Heap} {L : Addr} {m : Str → Option Value} {elt iter : Expr} {x : Str} {scope : Scope} {cl : List (Str × Addr)}
/-- a loop over a range with any target, by an invariant -/
theorem unr_inv {target : Expr} {body : List Stmt} {Q : Flow → Shared → Prop} {P : Nat → Value → Prop} {fp : List Addr} {n : Nat} (J : Nat → (Str → Option Value) → List (Addr × Obj) → Prop)
    (turn : ∀ i v m₁ nw h tk own, i < n → P i v → J i m₁ nw → (∀ p ∈ own, p.1 ∈ fp) → Fr h₀ env.locals h m₁ → News h₀ env.locals h (own ++ nw) →
      wpAny (model prog w) A (assign target env v) (fun _ s₂ => wpAny (model prog w) A (execs body env) (LoopStep3 h₀ env.locals own nw (J (i + 1)) { s with heap := h, toks := tk } (fun v s' => Q (.ret v) s') fun s' => Q .next s') E s₂) E { s with heap := h, toks := tk })
    (done : ∀ m₁ nw h tk, J n m₁ nw → Fr h₀ env.locals h m₁ → News h₀ env.locals h nw → Q .next { s with heap := h, toks := tk }) :
    ∀ (k i : Nat) (s₁ : Shared) m₁ nw, (∃ h tk, s₁ = { s with heap := h, toks := tk }) → n - i = k → i ≤ n → J i m₁ nw → Unr prog w A E h₀ env target body Q P fp s₁ k i m₁ nw := by
  intro k
  induction k with
  | zero =>
    rintro i s₁ m₁ nw ⟨h1, tk1, rfl⟩ hk hi hJ
    obtain rfl : i = n := nsub0 hk hi
    exact Unr.zero fun h' tk F N => done m₁ nw h' tk hJ F N
  | succ k ih =>
    rintro i s₁ m₁ nw ⟨h1, tk1, rfl⟩ hk hi hJ
    show ∀ _, _
    intro v h₁ tk₁ own hP ho F N
    refine wpAny_mono (turn i v m₁ nw h₁ tk₁ own (nsubl hk) hP hJ ho F N) (fun _ s₂ p => wpAny_mono p (fun f s₃ q => ?_) fun _ _ e => e) fun _ _ e => e
    cases f with
    | ret v => exact q
    | brk => exact q
    | next =>
      obtain ⟨e0, h, tk, m', nw', e, F', N', ha, hj⟩ := q
      exact ⟨e0, h, tk, m', nw', e, F', N', ha, ih (i + 1) _ m' nw' ⟨_, _, rfl⟩ (nsub1 hk) (nsubl hk) hj⟩
    | cont =>
      obtain ⟨e0, h, tk, m', nw', e, F', N', ha, hj⟩ := q
      exact ⟨e0, h, tk, m', nw', e, F', N', ha, ih (i + 1) _ m' nw' ⟨_, _, rfl⟩ (nsub1 hk) (nsubl hk) hj⟩
def RgS {σ : Type} (led : σ → List (Addr × Obj)) (stored : List Str) (m₀ : Str → Option Value) (J : σ → Prop) (m : Str → Option Value) (nx : List (Addr × Obj)) : Prop :=
  ∃ c : σ, nx = led c ∧ (∀ z, stored.contains z = false → m z = m₀ z) ∧ J c
theorem rg_end {σ : Type} {led : σ → List (Addr × Obj)} {stored : List Str} {m₀ m' : Str → Option Value} {J : σ → Prop} (c : σ) {own all nw : List (Addr × Obj)} {s₁ : Shared} {h' : Heap} {tk : Nat} {Qr : Value → Shared → Prop} {Qb : Shared → Prop}
    (F : Fr h₀ L h' m') (N : News h₀ L h' all) (hn : ∀ p ∈ led c, p ∈ all) (ho : ∀ p ∈ own, p ∈ all) (ha : (led c).map (·.1) = nw.map (·.1)) (hr : ∀ z, stored.contains z = false → m' z = m₀ z) (hj : J c) :
    LoopStep3 h₀ L own nw (RgS led stored m₀ J) s₁ Qr Qb .next { s₁ with heap := h', toks := tk } :=
  LoopStep2.intro (news₂ := led c) F (fun p hp => N p (by rcases List.mem_append.mp hp with h | h; exact ho p h; exact hn p h)) ha ⟨c, rfl, hr, hj⟩
theorem rg_inv {σ : Type} {y : Str} {py : Pos} {body : List Stmt} {Q : Flow → Shared → Prop} {r : Addr} {a₀ b₀ c₁ : Int} {t₀ u₀ v₀ : Tok} {n : Nat} {m₀ : Str → Option Value} (led : σ → List (Addr × Obj)) (stored : List Str) (J : Nat → σ → Prop) (c₀ : σ)
    (hh : A.handled = none) (hr : IsRange s.heap r a₀ b₀ c₁ t₀ u₀ v₀) (hsmall : Builtin.Range.small a₀ b₀ c₁ = true) (hn : Builtin.Range.rangeSize a₀ b₀ c₁ = (n : Int))
    (F : Fr h₀ env.locals s.heap m₀) (N : News h₀ env.locals s.heap (led c₀)) (had : ∀ c, (led c).map (·.1) = (led c₀).map (·.1)) (hj : J 0 c₀)
    (turn : Hold (∀ (i : Nat) (k : Int) (t : Tok) (c : σ) (u : Str → Option Value) h tk own, i < n → k = a₀ + (i : Int) * c₁ → OwnOff own ((led c₀).map (·.1)) → J i c → Fr h₀ env.locals h (fun z => if stored.contains z then u z else m₀ z) → News h₀ env.locals h (led c ++ own) →
      wpAny (model prog w) A (assign (.Name y py) env (.int k t)) (fun _ s₂ => wpAny (model prog w) A (execs body env) (LoopStep3 h₀ env.locals own (led c) (RgS led stored m₀ (J (i + 1))) { s with heap := h, toks := tk } (fun v s' => Q (.ret v) s') fun s' => Q .next s') E s₂) E { s with heap := h, toks := tk }))
    (done : Hold (∀ (c : σ) (u : Str → Option Value) h tk, J n c → Fr h₀ env.locals h (fun z => if stored.contains z then u z else m₀ z) → News h₀ env.locals h (led c) → Q .next { s with heap := h, toks := tk })) :
    wpAny (model prog w) A (pyIter (.ref r)) (fun it s₂ => UnrAt prog w A h₀ env (.Name y py) body Q E it s₂) E s := by
  refine wpAny_pyIter_range hr hsmall ?_
  have W : Walks prog w A s.heap.objs.size [s.heap.objs.size] [s.heap.objs.size] n (fun i v => i < n ∧ ∃ t, v = .int (a₀ + i * c₁) t)
      (fun i h => IsRangeIter h s.heap.objs.size (a₀ + (i : Nat) * c₁) ((n : Int) - (i : Nat)) c₁) := (Walks.range hh _ a₀ c₁ n).bound
  have fr : ∀ {m₁ : Str → Option Value} {h : Heap}, (∀ z, stored.contains z = false → m₁ z = m₀ z) → Fr h₀ env.locals h m₁ → Fr h₀ env.locals h (fun z => if stored.contains z then m₁ z else m₀ z) := by
    intro m₁ h hz F₁
    have e : m₁ = fun z => if stored.contains z then m₁ z else m₀ z := by
      funext z
      cases hc : stored.contains z with
      | true => rfl
      | false => exact hz z hc
    rw [← e]; exact F₁
  refine ⟨s.heap.objs.size, [s.heap.objs.size], [s.heap.objs.size], n, _, _, m₀, led c₀, rfl, W, ?_, ?_, ?_, (by show IsRangeIter _ _ _ _ _; rw [hn]; simpa using Heap.get?_push_size _ rfl), F.push _, fun p hp => ⟨Heap.get?_push_of_some _ (N p hp).1, (N p hp).2⟩, fun i s' v Q' st hQ' => wpAny_pure hQ', ?_⟩
  · intro hm
    exact absurd F.ns.lt ((List.mem_singleton.mp hm) ▸ Nat.lt_irrefl _)
  · intro b hb
    rw [List.mem_singleton.mp hb]
    exact next_is_new F
  · intro p hp hI
    exact absurd (Heap.lt_size (N p hp).1) ((List.mem_singleton.mp hI) ▸ Nat.lt_irrefl _)
  · refine unr_inv (s := s) (fun i m nx => RgS led stored m₀ (J i) m nx) ?_ ?_ n 0 _ m₀ (led c₀) ⟨_, _, rfl⟩ (Nat.sub_zero _) (Nat.zero_le _) ⟨c₀, rfl, fun _ _ => rfl, hj⟩
    · rintro i v m₁ nw h tk own hi ⟨_, t, rfl⟩ ⟨c, rfl, hz, hJ⟩ ho F₁ N₁
      refine turn i _ t c m₁ h tk own hi rfl ?_ hJ (fr hz F₁) (fun p hp => N₁ p (by rcases List.mem_append.mp hp with h | h; exact List.mem_append_right _ h; exact List.mem_append_left _ h))
      intro p hp b hb hpb
      obtain ⟨q, hq, rfl⟩ := List.mem_map.mp hb
      have := Heap.lt_size (N q hq).1
      rw [← hpb, List.mem_singleton.mp (ho p hp)] at this
      exact Nat.lt_irrefl _ this
    · rintro m₁ nw h tk ⟨c, rfl, hz, hJ⟩ F₁ N₁
      exact done c m₁ h tk hJ (fr hz F₁) N₁
end
theorem layV21 : True := by
  k_with "my exec Assign cons ListComp" => ((k_here; (with_reducible rename MyComp => hMC'q); k_dflt (refine' wpAny_Assign_Name ?_ ?hsZ9; (case hsZ9 => with_unfolding_all rfl))))
  k_with "my call type:range" => ((k_here; k_dflt (first | (refine' range1_rows ?FZ9 ?NZ9 ?_; (case FZ9 => k_asm); (case NZ9 => k_asm)) | (refine' range2_rows ?FZ9 ?NZ9 ?_; (case FZ9 => k_asm); (case NZ9 => k_asm)) | (refine' range3_rows ?FZ9 ?NZ9 (by decide) ?_; (case FZ9 => k_asm); (case NZ9 => k_asm))); intro h'q tk'q t'q u'q v'q R'q F'q N'q K'q))
  k_with "my exec For Name Call" => ((k_here; (with_reducible rename MyComp => hMC'q); k_dflt (refine' For_unrF ?FZ9 ?_ ?hsZ9; (case FZ9 => k_asm); (case hsZ9 => (intro _; rfl)))))
  exact True.intro

end
/-- a count or None -/
inductive VB : Option Nat → Value → Prop
  | none : VB none .none
  | some {b : Nat} {t : Tok} : VB (some b) (.int (b : Int) t)
def BestAt (room : Int) (zs : List Int) (B : Nat → Option Nat) (at_ : Nat) : Prop :=
    (B at_ = none ∧ ∀ e, at_ < e → e ≤ zs.length → B e ≠ none → ¬ ((zs.drop at_).take (e - at_)).sum ≤ room) ∨
    (∃ e b, at_ < e ∧ e ≤ zs.length ∧ B e = some b ∧ ((zs.drop at_).take (e - at_)).sum ≤ room ∧ B at_ = some (1 + b) ∧ ∀ e' b', at_ < e' → e' ≤ zs.length → B e' = some b' → ((zs.drop at_).take (e' - at_)).sum ≤ room → b ≤ b')
/-- what the dict holds after i turns -/
structure Few (room : Int) (zs : List Int) (i : Nat) (kvs : List (Int × Value)) (B : Nat → Option Nat) : Prop where
  len : kvs.length ≤ i + 1
  has : ∀ e, zs.length - i ≤ e → e ≤ zs.length → ∃ v, valueAt kvs (e : Int) = some v ∧ VB (B e) v
  only : ∀ p ∈ kvs, ∃ e, zs.length - i ≤ e ∧ e ≤ zs.length ∧ p.1 = (e : Int) ∧ VB (B e) p.2
  last : B zs.length = some 0
  best : ∀ a, zs.length - i ≤ a → a < zs.length → BestAt room zs B a
theorem Few.start {room : Int} {zs : List Int} {n : Int} {t : Tok} (hn : n = zs.length) : Few room zs 0 [(n, .int 0 t)] (fun _ => some 0) where
  len := Nat.le_refl _
  has := fun e h1 h2 => ⟨.int 0 t, by
    obtain rfl : e = zs.length := Nat.le_antisymm h2 h1
    subst hn; simp [valueAt], .some⟩
  only := fun p hp => ⟨zs.length, Nat.sub_le _ _, Nat.le_refl _, by rw [List.mem_singleton.mp hp, hn], by rw [List.mem_singleton.mp hp]; exact .some⟩
  last := rfl
  best := fun a h1 h2 => absurd (Nat.lt_of_lt_of_le h2 h1) (Nat.lt_irrefl a)
theorem valueAt_app {kvs : List (Int × Value)} {k j : Int} {v : Value} : valueAt (kvs ++ [(j, v)]) k = match valueAt kvs k with | some u => some u | none => if j = k then some v else none := by
  unfold valueAt
  rw [List.find?_append]
  cases h : kvs.find? (fun kv => decide (kv.1 = k)) with
  | some p => simp
  | none =>
    by_cases hj : j = k
    · simp [hj]
    · simp [hj]
theorem BestAt.congr {room : Int} {zs : List Int} {B B' : Nat → Option Nat} {a : Nat} (h : BestAt room zs B a) (e : ∀ x, a ≤ x → B' x = B x) : BestAt room zs B' a := by
  rcases h with ⟨h1, h2⟩ | ⟨x, b, h1, h2, h3, h4, h5, h6⟩
  · exact .inl ⟨by rw [e a (Nat.le_refl _)]; exact h1, fun x hx hl hb => h2 x hx hl (by rw [← e x (Nat.le_of_lt hx)]; exact hb)⟩
  · exact .inr ⟨x, b, h1, h2, by rw [e x (Nat.le_of_lt h1)]; exact h3, h4, by rw [e a (Nat.le_refl _)]; exact h5, fun x' b' hx hl hb hs => h6 x' b' hx hl (by rw [← e x' (Nat.le_of_lt hx)]; exact hb) hs⟩
theorem Few.step {room : Int} {zs : List Int} {i a : Nat} {kvs : List (Int × Value)} {B : Nat → Option Nat} {ob : Option Nat} {v : Value} {k : Int} (h : Few room zs i kvs B) (hi : a + (i + 1) = zs.length) (hk : k = (a : Int)) (hv : VB ob v)
    (hb : BestAt room zs (fun e => if e = a then ob else B e) a) : Few room zs (i + 1) (stored kvs k v) (fun e => if e = a then ob else B e) := by
  subst hk
  have e1 : zs.length - (i + 1) = a := by rw [← hi, Nat.add_sub_cancel]
  have e0 : zs.length - i = a + 1 := by rw [← hi]; exact (congrArg (· - i) (Nat.add_right_comm a i 1)).trans (Nat.add_sub_cancel ..)
  have hal : a < zs.length := hi ▸ Nat.lt_add_of_pos_right (Nat.succ_pos i)
  have up : ∀ e, a ≤ e → ¬ e = a → zs.length - i ≤ e := fun e h1 h2 => Nat.le_trans (Nat.le_of_eq e0) (Nat.lt_of_le_of_ne h1 (Ne.symm h2))
  have dn : ∀ e, zs.length - i ≤ e → a < e := fun e h1 => Nat.le_trans (Nat.le_of_eq e0.symm) h1
  have hnone : valueAt kvs (a : Int) = none := by
    unfold valueAt
    rw [Option.map_eq_none_iff, List.find?_eq_none]
    intro p hp hpk
    obtain ⟨e, h1, h2, h3, _⟩ := h.only p hp
    rw [h3] at hpk
    rw [e0, Int.ofNat.inj (of_decide_eq_true hpk)] at h1
    exact absurd h1 (Nat.not_succ_le_self a)
  rw [PyProof.Rows.stored_absent hnone]
  refine ⟨by rw [List.length_append, List.length_singleton]; exact Nat.succ_le_succ h.len, ?_, ?_, ?_, ?_⟩
  · intro e h1 h2
    rw [e1] at h1
    rw [valueAt_app]
    by_cases he : e = a
    · subst he
      exact ⟨v, by rw [hnone]; simp, by rw [if_pos rfl]; exact hv⟩
    · obtain ⟨u, hu, hV⟩ := h.has e (up e h1 he) h2
      exact ⟨u, by rw [hu], by rw [if_neg he]; exact hV⟩
  · intro p hp
    rcases List.mem_append.mp hp with hp | hp
    · obtain ⟨e, h1, h2, h3, h4⟩ := h.only p hp
      exact ⟨e, e1 ▸ Nat.le_of_lt (dn e h1), h2, h3, by rw [if_neg (Nat.ne_of_gt (dn e h1))]; exact h4⟩
    · rw [List.mem_singleton.mp hp]
      exact ⟨a, Nat.le_of_eq e1, Nat.le_of_lt hal, rfl, by rw [if_pos rfl]; exact hv⟩
  · rw [if_neg (Nat.ne_of_gt hal)]; exact h.last
  · intro x h1 h2
    rw [e1] at h1
    by_cases hx : x = a
    · subst hx; exact hb
    · exact (h.best x (up x h1 hx) h2).congr fun y hy => if_neg (Nat.ne_of_gt (Nat.lt_of_lt_of_le (dn x (up x h1 hx)) hy))
theorem Few.done {room : Int} {zs : List Int} {kvs : List (Int × Value)} {B : Nat → Option Nat} (h : Few room zs zs.length kvs B) : Best room zs B := ⟨h.last, fun a ha => h.best a (Nat.sub_self _ ▸ Nat.zero_le a) ha⟩
/-- the ends that fit -/
def okE (room : Int) (zs : List Int) (B : Nat → Option Nat) (a : Nat) (e : Int) : Bool := (B e.toNat).isSome && decide (((zs.drop a).take (e.toNat - a)).sum ≤ room)
def endsE (room : Int) (zs : List Int) (B : Nat → Option Nat) (a i : Nat) : List Int := ((List.range i).map fun j : Nat => (a : Int) + 1 + (j : Int)).filter (okE room zs B a)
theorem endsE_yes {room : Int} {zs : List Int} {B : Nat → Option Nat} {a i : Nat} {k : Int} (hk : k = (a : Int) + 1 + i) (h : okE room zs B a k = true) : endsE room zs B a (i + 1) = endsE room zs B a i ++ [k] := by
  subst hk
  unfold endsE
  rw [List.range_succ, List.map_append, List.filter_append, List.map_singleton, List.filter_cons_of_pos h]; rfl
theorem endsE_no {room : Int} {zs : List Int} {B : Nat → Option Nat} {a i : Nat} {k : Int} (hk : k = (a : Int) + 1 + i) (h : okE room zs B a k = false) : endsE room zs B a (i + 1) = endsE room zs B a i := by
  subst hk
  unfold endsE
  rw [List.range_succ, List.map_append, List.filter_append, List.map_singleton, List.filter_cons_of_neg (by rw [h]; exact Bool.false_ne_true), List.filter_nil, List.append_nil]
theorem endsE_mem {room : Int} {zs : List Int} {B : Nat → Option Nat} {a i : Nat} {k : Int} : k ∈ endsE room zs B a i ↔ (∃ e : Nat, k = (e : Int) ∧ a < e ∧ e ≤ a + i) ∧ okE room zs B a k = true := by
  unfold endsE
  rw [List.mem_filter, List.mem_map]
  constructor
  · rintro ⟨⟨j, hj, rfl⟩, h⟩
    exact ⟨⟨a + 1 + j, rfl, Nat.lt_of_lt_of_le (Nat.lt_succ_self a) (Nat.le_add_right _ _), by rw [Nat.add_assoc, Nat.add_comm 1]; exact Nat.add_le_add_left (List.mem_range.mp hj) a⟩, h⟩
  · rintro ⟨⟨e, rfl, h1, h2⟩, h⟩
    obtain ⟨d, rfl⟩ := Nat.exists_eq_add_of_lt h1
    exact ⟨⟨d, List.mem_range.mpr (Nat.lt_of_add_lt_add_left h2), (Int.add_right_comm (a : Int) 1 d)⟩, h⟩
theorem okE_iff {room : Int} {zs : List Int} {B : Nat → Option Nat} {a e : Nat} : okE room zs B a (e : Int) = true ↔ B e ≠ none ∧ ((zs.drop a).take (e - a)).sum ≤ room := by
  unfold okE
  rw [Int.toNat_natCast, Bool.and_eq_true, decide_eq_true_eq, Option.isSome_iff_ne_none]
theorem best_no {room : Int} {zs : List Int} {B : Nat → Option Nat} {a i : Nat} (hi : a + i = zs.length) (h : endsE room zs B a i = []) : BestAt room zs (fun e => if e = a then none else B e) a := by
  refine .inl ⟨if_pos rfl, fun e h1 h2 hb hs => ?_⟩
  rw [show (fun e => if e = a then none else B e) e = B e from if_neg (Nat.ne_of_gt h1)] at hb
  have : (e : Int) ∈ endsE room zs B a i := endsE_mem.mpr ⟨⟨e, rfl, h1, hi ▸ h2⟩, okE_iff.mpr ⟨hb, hs⟩⟩
  rw [h] at this; cases this
theorem best_yes {room : Int} {zs : List Int} {B : Nat → Option Nat} {a i : Nat} {M : Int} (hi : a + i = zs.length) (hM : M ∈ (endsE room zs B a i).map fun k => (((B k.toNat).getD 0 : Nat) : Int)) (hmin : ∀ x ∈ (endsE room zs B a i).map fun k => (((B k.toNat).getD 0 : Nat) : Int), M ≤ x) :
    ∃ b : Nat, M = (b : Int) ∧ BestAt room zs (fun e => if e = a then some (1 + b) else B e) a := by
  obtain ⟨k, hk, rfl⟩ := List.mem_map.mp hM
  obtain ⟨⟨e, rfl, h1, h2⟩, hok⟩ := endsE_mem.mp hk
  obtain ⟨hb, hs⟩ := okE_iff.mp hok
  rw [Int.toNat_natCast] at hmin ⊢
  obtain ⟨b, hbe⟩ := Option.ne_none_iff_exists'.mp hb
  refine ⟨b, by rw [hbe]; rfl, .inr ⟨e, b, h1, hi ▸ h2, (if_neg (Nat.ne_of_gt h1)).trans hbe, hs, if_pos rfl, ?_⟩⟩
  intro e' b' g1 g2 g3 g4
  replace g3 : B e' = some b' := (if_neg (Nat.ne_of_gt g1)).symm.trans g3
  have := hmin _ (List.mem_map.mpr ⟨(e' : Int), endsE_mem.mpr ⟨⟨e', rfl, g1, hi ▸ g2⟩, okE_iff.mpr ⟨by rw [g3]; simp, g4⟩⟩, rfl⟩)
  rw [Int.toNat_natCast, g3, hbe] at this
  simpa using this
/-- the law's measure of a word's room -/
theorem room_iff {chs way : Str} {width total : Int} (hw : way = wQ ∨ way = wB) (h0 : 0 ≤ total) : 7 + (chs.length : Int) + (if way = wQ then total else 4 * ((total + 2) / 3)) ≤ width ↔ total ≤ rm chs way width := by
  have hwl := (way_len hw).1
  unfold rm
  rcases hw with rfl | rfl
  · rw [if_pos rfl, if_neg (by decide), hwl]; push_cast; omega
  · rw [if_neg (by decide), if_pos rfl, hwl]
    refine Iff.trans ?_ b64_room
    rw [show (7 : Int) + chs.length = 6 + (chs.length : Int) + ((1 : Nat) : Int) by rw [Int.add_right_comm]; rfl]
    exact ⟨Int.le_sub_left_of_add_le, Int.add_le_of_le_sub_left⟩

abbrev FewS := Obj × Obj × List (Int × Value) × (Nat → Option Nat)
def FewJ (w : World) (room : Int) (zs : List Int) (i : Nat) (c : FewS) : Prop := (∃ v, c.2.1.data = .cell v) ∧ c.1.IsDictOf (PySem.intKind Prg w) c.2.2.1 ∧ Few room zs i c.2.2.1 c.2.2.2
theorem fewJ_mk {w : World} {room : Int} {zs : List Int} {i : Nat} {o oA : Obj} {v : Option Value} {kvs : List (Int × Value)} {B : Nat → Option Nat} (h1 : oA.data = .cell v) (h2 : o.IsDictOf (PySem.intKind Prg w) kvs) (h3 : Few room zs i kvs B) : FewJ w room zs i (o, oA, kvs, B) := ⟨⟨_, h1⟩, h2, h3⟩
theorem endsE_len (room : Int) (zs : List Int) (B : Nat → Option Nat) (a i : Nat) : (endsE room zs B a i).length ≤ i := by
  unfold endsE
  exact Nat.le_trans (List.length_filter_le _ _) (by simp)
theorem ends_m {m' u m₀ : Str → Option Value} {z : Str} {v : Option Value} (hz : [Str.ofString "ends"].contains z = false) (hm : m' = fun y => if y = Str.ofString "ends" then v else if [Str.ofString "ends"].contains y = true then u y else m₀ y) : m' z = m₀ z := by
  have hz2 : z ≠ Str.ofString "ends" := fun e => by subst e; simp at hz
  rw [hm]; dsimp only; rw [if_neg hz2, hz]; rfl
section
variable {w : World} {A : Around} {E : Value → Shared → Prop} {s : Shared} {env : Env} {h₀ : Heap}
theorem rg_few {y : Str} {py : Pos} {body : List Stmt} {Q : Flow → Shared → Prop} {m₀ : Str → Option Value} {d a r : Addr} {o₀ oA₀ : Obj} {x1 : Addr × Obj} {rest : List (Addr × Obj)} {n : Nat} {room : Int} {zs : List Int} {t t₀ u₀ v₀ : Tok} {v₁ : Option Value} (stored : List Str)
    (hh : A.handled = none) (hr : IsRange s.heap r ((n : Int) - 1) (-1) (-1) t₀ u₀ v₀) (hzs : zs.length = n) (hn : n ≤ 64) (F : Fr h₀ env.locals s.heap m₀) (N : News h₀ env.locals s.heap ((d, o₀) :: x1 :: (a, oA₀) :: rest)) (hd : o₀.IsDictOf (PySem.intKind Prg w) [((n : Int), .int 0 t)]) (hA : oA₀.data = .cell v₁)
    (turn : Hold (∀ (i ai : Nat) (k : Int) (t : Tok) (o oA : Obj) (v₁ : Option Value) (kvs : List (Int × Value)) (B : Nat → Option Nat) (u : Str → Option Value) h tk own, ai + (i + 1) = zs.length → k = (ai : Int) → OwnOff own (d :: x1.1 :: a :: rest.map (·.1)) → o.IsDictOf (PySem.intKind Prg w) kvs → oA.data = .cell v₁ → Few room zs i kvs B →
      Fr h₀ env.locals h (fun z => if stored.contains z then u z else m₀ z) → News h₀ env.locals h ((d, o) :: x1 :: (a, oA) :: (rest ++ own)) →
      wpAny (model Prg w) A (assign (.Name y py) env (.int k t)) (fun _ s₂ => wpAny (model Prg w) A (execs body env) (LoopStep3 h₀ env.locals own ((d, o) :: x1 :: (a, oA) :: rest) (RgS (fun c : FewS => (d, c.1) :: x1 :: (a, c.2.1) :: rest) stored m₀ (FewJ w room zs (i + 1))) { s with heap := h, toks := tk } (fun v s' => Q (.ret v) s') fun s' => Q .next s') E s₂) E { s with heap := h, toks := tk }))
    (done : Hold (∀ (o oA : Obj) (v₁ : Option Value) (kvs : List (Int × Value)) (B : Nat → Option Nat) (u : Str → Option Value) h tk, o.IsDictOf (PySem.intKind Prg w) kvs → oA.data = .cell v₁ → Few room zs zs.length kvs B → Fr h₀ env.locals h (fun z => if stored.contains z then u z else m₀ z) → News h₀ env.locals h ((d, o) :: x1 :: (a, oA) :: rest) → Q .next { s with heap := h, toks := tk })) :
    wpAny (model Prg w) A (pyIter (.ref r)) (fun it s₂ => UnrAt Prg w A h₀ env (.Name y py) body Q E it s₂) E s := by
  have hsz : Builtin.Range.rangeSize ((n : Int) - 1) (-1) (-1) = (n : Int) := by
    exact rsz_down (by omega)
  refine rg_inv (n := n) (fun c : FewS => (d, c.1) :: x1 :: (a, c.2.1) :: rest) stored (fun i c => FewJ w room zs i c) (o₀, oA₀, _, fun _ => some 0) hh hr ?_ hsz F N (fun _ => rfl) ⟨⟨_, hA⟩, hd, Few.start (by rw [hzs])⟩ ?_ ?_
  · exact small_down (by omega) (by omega) (by omega) (by omega)
  · rintro i k t ⟨o, oA, kvs, B⟩ u h tk own hi hk hoff ⟨⟨v₁, h1⟩, h2, h3⟩ F₁ N₁
    exact turn i (n - 1 - i) k t o oA v₁ kvs B u h tk own ((by rw [Nat.sub_sub, Nat.add_comm 1 i]; exact Nat.sub_add_cancel hi : n - 1 - i + (i + 1) = n).trans hzs.symm) (by rw [hk, Nat.sub_sub, Nat.add_comm 1 i, Int.ofNat_sub hi, Int.mul_neg, Int.mul_one, ← Int.sub_eq_add_neg, Int.sub_sub, Int.add_comm 1]; rfl) hoff h2 h1 h3 F₁ N₁
  · rintro ⟨o, oA, kvs, B⟩ u h tk ⟨⟨v₁, h1⟩, h2, h3⟩ F₁ N₁
    exact done o oA v₁ kvs B u h tk h2 h1 (hzs ▸ h3) F₁ N₁
end
section
variable {prog : Program} {w : World} {A : Around} {E : Value → Shared → Prop} {s : Shared} {h₀ : Heap} {L : Addr} {m : Str → Option Value} {env : Env} {elt ct : Expr} {x : Str} {scope : Scope} {cl : List (Str × Addr)} {nw : List (Addr × Obj)} {Fin : Shared → List Value → List (Addr × Obj) → Prop}
theorem smallN {a b : Nat} (ha : a ≤ 65) (hb : b ≤ 65) : Builtin.Range.small (a : Int) (b : Int) 1 = true := small_one (Int.le_trans (by decide) (Int.natCast_nonneg a)) (Int.lt_of_le_of_lt (Int.ofNat_le.mpr ha) (by decide)) (Int.le_trans (by decide) (Int.natCast_nonneg b)) (Int.lt_of_le_of_lt (Int.ofNat_le.mpr hb) (by decide))
theorem cpT_ends {r : Addr} {b₀ k : Int} {t₀ u₀ v₀ : Tok} {room : Int} {zs : List Int} {B : Nat → Option Nat} {ai i : Nat}
    (hh : A.handled = none) (hr : IsRange s.heap r (k + 1) b₀ 1 t₀ u₀ v₀) (hk : k = (ai : Int)) (hb : b₀ = (zs.length : Int) + 1) (hai : ai + (i + 1) = zs.length) (hzl : zs.length ≤ 64) (F : Fr h₀ L s.heap m) (N : News h₀ L s.heap nw)
    (turn : Hold (∀ (j e : Nat) (k' : Int) (t : Tok) ys I oI C oC D m₂ h tk (E' : Value → Shared → Prop), k' = (e : Int) → e = ai + 1 + j → ai < e → e ≤ zs.length → IntsAre ys (endsE room zs B ai j) → LCg.NsObj oC m₂ → m₂ x = some (.int k' t) → Fr h₀ L h m → News h₀ L h ((I, oI) :: (C, oC) :: (D, LCg.lst ys) :: nw) → LCg.Off3 I C D nw → ((@Ne Nat I C) ∧ (@Ne Nat I D) ∧ (@Ne Nat C D)) →
      wpAny (model prog w) A (isTrue ct (compEnvC scope cl C env) (eval ct (compEnvC scope cl C env))) (fun ok s' => if ok = true then
        wpAny (model prog w) A (eval elt (compEnvC scope cl C env)) (LCg.CompEnd h₀ L m { s with heap := h, toks := tk } I oI C oC D (LCg.lst ys) AnySrc (fun y news' => ∃ _ : Unit, news' = nw ∧ IntsAre (ys ++ [y]) (endsE room zs B ai (j + 1)))) E' s'
        else LCg.CompEnd h₀ L m { s with heap := h, toks := tk } I oI C oC D (LCg.lst ys) AnySrc (fun _ news' => ∃ _ : Unit, news' = nw ∧ IntsAre ys (endsE room zs B ai (j + 1))) Value.none s') E' { s with heap := h, toks := tk }))
    (fin : Hold (∀ g ys, IntsAre ys (endsE room zs B ai (i + 1)) → Fin { s with heap := g } ys nw)) :
    wpAny (model prog w) A (pyIter (.ref r)) (CpT prog w A h₀ L m env ct elt x scope cl Fin) E s :=
  cpT_range (n := i + 1) (σ := Unit) (fun _ => nw) (fun j _ ys => IntsAre ys (endsE room zs B ai j)) () hh hr (by rw [hk, hb]; exact smallN (a := ai + 1) (b := zs.length + 1) (Nat.le_trans (Nat.succ_le_succ (hai ▸ Nat.le_add_right _ _ : ai ≤ zs.length)) (Nat.succ_le_succ hzl)) (Nat.succ_le_succ hzl)) (rsz_up (by rw [hb, hk, ← hai, Int.add_sub_add_right]; exact icl (ai : Int) ((i + 1 : Nat) : Int))) (Nat.le_trans (Nat.le_add_left _ ai) (Nat.le_trans (Nat.le_of_eq hai) (Nat.le_trans hzl (by decide)))) F N .nil
    (fun j k' t _ ys I oI C oC D m₂ h tk E' hj hk' hJ hC hx F₁ N₁ off ne => turn j (ai + 1 + j) k' t ys I oI C oC D m₂ h tk E' (by rw [hk', hk, Int.mul_one]; rfl) rfl (Nat.lt_of_lt_of_le (Nat.lt_succ_self ai) (Nat.le_add_right _ _)) (by rw [← hai, Nat.add_assoc, Nat.add_comm 1]; exact Nat.add_le_add_left hj ai) hJ hC hx F₁ N₁ off ne)
    (fun g _ ys hJ => fin g ys hJ)
end
abbrev RFew (news : List (Addr × Obj)) (room : Int) (zs : List Int) : Cont := fun h₀ L m s Q _ => ∀ (B : Nat → Option Nat) (v : Value) (h' : Heap) (tk' : Nat), Best room zs B → ((∃ e, e ≤ zs.length ∧ B e = none) ∧ v = .none ∨ (∀ e, e ≤ zs.length → B e ≠ none) ∧ ∃ b t, B 0 = some b ∧ v = .int ((b : Nat) : Int) t) → Fr h₀ L h' m → News h₀ L h' news → Q v { s with heap := h', toks := tk' }
theorem vb_some {b : Nat} {M : Int} {t : Tok} (h : M = (b : Int)) : VB (some (1 + b)) (.int (1 + M) t) := by
  rw [show (1 : Int) + M = ((1 + b : Nat) : Int) by rw [h]; push_cast; rfl]; exact .some
def noneV : Value → Bool
  | .none => true
  | _ => false
def trN (kvs : List (Int × Value)) (i : Nat) : Bool := match kvs[i]? with | some p => noneV p.2 | none => false
theorem vb_noI {ob : Option Nat} {v : Value} (h : VB ob v) : NoI v (noneV v) := by
  cases h with
  | none => exact .inl ⟨rfl, rfl⟩
  | some => exact .inr ⟨_, _, rfl, rfl⟩
theorem vb_none {ob : Option Nat} {v : Value} (h : VB ob v) : noneV v = true ↔ ob = none := by
  cases h with
  | none => exact ⟨fun _ => rfl, fun _ => rfl⟩
  | some => exact ⟨fun h => (by cases h), fun h => (by cases h)⟩
theorem trN_ok {room : Int} {zs : List Int} {n : Nat} {kvs : List (Int × Value)} {B : Nat → Option Nat} (h : Few room zs n kvs B) (i : Nat) (k : Int) (u : Value) (hi : kvs[i]? = some (k, u)) : NoI u (trN kvs i) := by
  obtain ⟨e, _, _, _, hV⟩ := h.only _ (List.mem_of_getElem? hi)
  unfold trN
  rw [hi]
  exact vb_noI hV
theorem trN_all {room : Int} {zs : List Int} {kvs : List (Int × Value)} {B : Nat → Option Nat} (h : Few room zs zs.length kvs B) (ha : ∀ e, e ≤ zs.length → B e ≠ none) : (!(List.range kvs.length).any (trN kvs)) = true := by
  rw [Bool.not_eq_true', List.any_eq_false]
  intro i hi ht
  have hi := List.mem_range.mp hi
  obtain ⟨e, _, h2, _, hV⟩ := h.only kvs[i] (List.getElem_mem hi)
  unfold trN at ht
  rw [List.getElem?_eq_getElem hi] at ht
  exact ha e h2 ((vb_none hV).mp ht)
theorem trN_some {room : Int} {zs : List Int} {kvs : List (Int × Value)} {B : Nat → Option Nat} (h : Few room zs zs.length kvs B) (ha : ∃ e, e ≤ zs.length ∧ B e = none) : (!(List.range kvs.length).any (trN kvs)) = false := by
  obtain ⟨e, he, hb⟩ := ha
  obtain ⟨v, hv, hV⟩ := h.has e (Nat.sub_self _ ▸ Nat.zero_le e) he
  unfold valueAt at hv
  obtain ⟨p, hp, rfl⟩ := Option.map_eq_some_iff.mp hv
  obtain ⟨i, hi, hpi⟩ := List.getElem_of_mem (List.mem_of_find?_eq_some hp)
  rw [Bool.not_eq_false', List.any_eq_true]
  refine ⟨i, List.mem_range.mpr hi, ?_⟩
  unfold trN
  rw [List.getElem?_eq_getElem hi, hpi]
  exact (vb_none hV).mpr hb
theorem few_news {h₀ h : Heap} {L : Addr} {v1 v2 x1 x2 x3 x4 x5 x6 x7 x8 : Addr × Obj} {nw : List (Addr × Obj)} (N : News h₀ L h (x1 :: x2 :: x3 :: x4 :: x5 :: x6 :: x7 :: x8 :: v1 :: v2 :: nw)) : News h₀ L h (v2 :: nw) := fun p hp => N p (by simp only [List.mem_cons] at hp ⊢; rcases hp with h | h <;> simp [h])
theorem len_rows {prog : Program} {w : World} {A : Around} {E : Value → Shared → Prop} {s : Shared} {l : Addr} {vs : List Value} {n : Nat} {Q : Value → Shared → Prop} (hl : s.heap.IsList l vs.toArray) (e : vs.length = n) (hz : n ≤ 16384) (h : Q (.int n (s.toks + 1)) { s with toks := s.toks + 1 + 1 }) : wpAny (model prog w) A (call (.builtin "len") [.ref l]) Q E s :=
  kun_lenL hl (by rw [List.size_toArray, e]) (by omega) h
theorem layF11 : True := by
  k_with "my call ref" => ((guard_hyp hmkF1); (k_here; (with_reducible show wpAny _ _ (PySem.call (Value.ref 373) _) _ _ _); k_dflt (refine' called (law_marked_at _ _ _ _ _ (by kba_ints) (by omega)) ?kBZ9 ?kFZ9 ?kXZ9 ?kNZ9 ?kTZ9 ?kKZ9 ?kDZ9 ?kUZ9 ?_; (case kBZ9 | kFZ9 | kXZ9 | kNZ9 | kTZ9 => k_asm); (case kKZ9 => first | exact rfl | assumption); (case kDZ9 => ktr_room); (case kUZ9 => ktr_units)); intro b'q t'q h'q tk'q kbEq9 F'q N'q))
  k_with "my call ref" => ((guard_hyp hmkF1); (k_here; (with_reducible show wpAny _ _ (PySem.call (Value.ref 380) _) _ _ _); k_dflt (refine' called (law_room_at _ _ _ _ _ _ _ _ (by omega) (by with_reducible assumption) (by with_reducible assumption)) ?kBZ9 ?kFZ9 ?kXZ9 ?kNZ9 ?kTZ9 ?kKZ9 ?kDZ9 ?kUZ9 ?_; (case kBZ9 | kFZ9 | kXZ9 | kNZ9 | kTZ9 => k_asm); (case kKZ9 => first | exact rfl | assumption); (case kDZ9 => ktr_room); (case kUZ9 => ktr_units)); intro t'q h'q tk'q F'q N'q))
  k_with "my eval Dict" => ((guard_hyp hmkF1); (k_here; k_dflt (refine' kdn_eval (knd := PySem.intKind _ _) ?FZ9 ?NZ9 ?bZ9 ?aZ9 ?lZ9 ?eZ9 ?nZ9 ?_; (case FZ9 => k_asm); (case NZ9 => k_asm); (case bZ9 => exact Top.nolimit (by k_asm)); (case aZ9 => rfl); (case lZ9 => rfl); (case eZ9 => exact List.cons_ne_nil _ _); (case nZ9 => exact Nat.le_of_ble_eq_true rfl)); intro d'q h'q o'q F'q N'q l1 lo'q hd'q; (try k_lt l1)))
  k_with "my KdnMade" => ((guard_hyp hmkF1); (k_here; k_dflt (refine' kdn_made_int ?FZ9 ?NZ9 ?UZ9 ?dZ9 ?kZ9 ?nZ9 ?_; (case FZ9 => k_asm); (case NZ9 => k_asm); (case UZ9 => k_updF); (case dZ9 => k_asm); (case kZ9 => rfl); (case nZ9 => exact List.nodup_cons.mpr ⟨List.not_mem_nil, List.nodup_nil⟩)); intro h'q o'q F'q N'q hd'q; (try dsimp only at N'q)))
  k_with "my call builtin:len" => ((guard_hyp hmkF1); (k_here; (with_reducible show wpAny _ _ (call (Value.builtin "len") [Value.ref _]) _ _ _); k_dflt (refine' len_rows ?k1Z9 ?k2Z9 ?k3Z9 ?_; (case k1Z9 => is_list); (case k2Z9 => with_reducible assumption); (case k3Z9 => omega))))
  k_with "my subscriptTail Name Name ref int" => ((guard_hyp hmkF1); (k_here; k_dflt (refine' kda_item (knd := PySem.intKind _ _) ?NZ9 ?pZ9 ?dZ9 (intKind_is _ _ _ _) ?lZ9 ?_; (case NZ9 => k_asm); (case pZ9 => k_mem); (case dZ9 => with_reducible assumption); (case lZ9 => with_reducible assumption))))
  k_with "my subscriptTail Name Constant ref int" => ((guard_hyp hmkF1); (k_here; k_dflt (refine' kda_item (knd := PySem.intKind _ _) ?NZ9 ?pZ9 ?dZ9 (intKind_is _ _ _ _) ?lZ9 ?_; (case NZ9 => k_asm); (case pZ9 => k_mem); (case dZ9 => with_reducible assumption); (case lZ9 => with_reducible assumption))))
  k_with "my setItem ref int" => ((guard_hyp hmkF1); (k_here; k_dflt (refine' kda_set (knd := PySem.intKind _ _) ?FZ9 ?NZ9 ?UZ9 ?dZ9 (intKind_is _ _ _ _) ?zZ9 ?_; (case FZ9 => k_asm); (case NZ9 => k_asm); (case UZ9 => k_updF); (case dZ9 => with_reducible assumption); (case zZ9 => (rw [sizeLine_eq]; omega))); intro h'q o'q F'q N'q hd'q; (try dsimp only at N'q)))
  k_with "my compareOp NotEq ref ref" => ((guard_hyp hmkF1); (k_here; k_dflt (refine ke_ne_ints (by is_list) (by is_list) (by l_ints) (by l_ints) (by simp only [A9q]; ke_room) ?_)))
  k_with "my LoopStep3" => ((guard_hyp hmkF1); (k_dflt (refine' (id : Hold (LoopStep3 _ _ _ _ _ _ _ _ _ _) → LoopStep3 _ _ _ _ _ _ _ _ _ _) ?_)))
  k_with "my pyIter ref" => ((guard_hyp hmkF1); (k_here; k_dflt (refine' (id : Hold _ → _) ?_)))
  exact True.intro

theorem law_fewest_at (w : World) (news : List (Addr × Obj)) (rl : Addr) (rows : List Value) (z chs way : Str) (width : Int) (t1 t2 t3 : Tok) (hcs : chs = cA ∨ chs = cL ∨ chs = cU) (hw : way = wQ ∨ way = wB) (hn : z.length ≤ 64) (hn1 : 1 ≤ z.length) (hB : BtsAre rows ((txI z).map (en chs))) (hw0 : 18 ≤ width) (hw1 : width ≤ 75) : CG w 3 385 [.ref rl, .str chs t1, .str way t2, .int width t3] ((rl, LCg.lst rows) :: news) (RFew ((rl, LCg.lst rows) :: news) (rm chs way width) ((txI z).map (sz chs way))) := by
  have hvl := hB.length
  rw [List.length_map, txI_len] at hvl
  generalize hss : sz chs way = ss
  have hri : ∀ total : Int, 0 ≤ total → (7 + (chs.length : Int) + (if way = wQ then total else 4 * ((total + 2) / 3)) ≤ width ↔ total ≤ rm chs way width) := fun total h => room_iff hw h
  generalize rm chs way width = room at hri ⊢
  have hzl : ((txI z).map ss).length = z.length := by rw [List.length_map, txI_len]
  have hz0 : ∀ x ∈ (txI z).map ss, 0 ≤ x := fun x hx => by
    obtain ⟨c, _, rfl⟩ := List.mem_map.mp hx
    rw [← hss]; exact Int.le_trans (by decide) (sz_pos chs way c).1
  generalize hzs : (txI z).map ss = zs at hzl hz0 ⊢
  all_goals
    have hmkF1 : OwnW := True.intro
    intro mean mg mb dp un gd cn cs a ccd cl outer A₀ base h₀ L m s Q E B F X N T hk hd hu hret
    refine wpAny_call ?_
    k_dflt (refine' code_defC ?k1 ?k2 ?k3 ?k4 ?k5 ?kA ?kF ?kK ?k6 ?k7 ?k8 ?k9 ?kB ?kD ?_ ?c2 ?c3 ?c4; (case kA => exact rfl); (case kF => exact rfl); (case kK => assumption); (case k1 => k_asm); (case k2 => k_asm); (case k3 => k_asm); (case k4 => k_asm); (case k5 => k_asm); (case k6 => k_is); (case k7 => k_is); (case k8 => ktr_room); (case k9 => exact BindsTo.of_eq rfl); (case kB => exact rfl); (case kD => decide +kernel); (case c2 => exact rfl); (case c3 => exact rfl); (case c4 => exact rfl); k_whole)
    intro g' L' h' tk' cells' FG' F' N' Y' B' X' T' l1
    obtain ⟨oA, oB, oC, oD, oE, oF, hE, dA, dB, dC, dD, dE, dF⟩ := kc_six Y'; subst hE; clear Y'
    (try simp only [List.cons_append, List.nil_append] at N'); (try dsimp only); (try k_lift B'); (try k_fold); (try (refine let_AE ?_; intro A9q e9q)); (try ((with_reducible rename Fr _ _ _ _ => F9q); refine let_m F9q ?_; clear F9q; intro m9q F'))
    have hMC : MyComp := True.intro
    have hrl : @LT.lt Nat _ rl L' := l1 _ (.head _)
    have hnw : ∀ p ∈ news, p.1 < L' := fun p hp => l1 p (.tail _ hp)
    (try k_fold)
    k_steps
    rename (News _ _ _ _) => NN
    show wpAny _ _ _ _ _ _
    k_dflt (refine' cpU_listC (its := rows.toArray) (fun i ys => IntsAre ys (((txI z).take i).map ss)) ?_ NN (Or.inr ⟨LCg.lst rows, by simp, rfl, _, rfl⟩) rfl ?_ IntsAre.nil ?_ ?_)
    · k_asm
    · rw [List.size_toArray]; omega
    · intro i v ys2 I oI C oC D m₂ h1 tk E' hi hJ2 hC hx F' N' off ne
      (try k_fold)
      obtain ⟨b9, t9, ks9, hk9, rfl, hb9⟩ := hB.get i v (by simpa using hi)
      rw [List.getElem?_map] at hk9
      obtain ⟨c9, hc9, rfl⟩ := Option.map_eq_some_iff.mp hk9
      have hl9 := (en_len chs c9).2
      have hq9 : ((en chs c9).flatMap qenc).length ≤ 3 * (en chs c9).length := flatMap_le qenc 3 _ (fun a _ => by unfold qenc; split <;> (try split) <;> simp)
      simp only [LCg.Off3, and_true] at off
      rcases hw with e9 | e9
      all_goals
        subst e9
        (try k_fold)
        k_steps
        refine' LCg.CompEnd.intro ?lpF ?lpN _ ?lpa ?lpo ?lps ⟨(), rfl, ?_⟩
        (case lpF => k_asm)
        (case lpN => k_asm)
        (case lpa => kcf_all)
        (case lpo => first | assumption | (simp only [LCg.Off3, and_true]; done) | (simp only [LCg.Off3, and_true]; assumption))
        (case lps => first | trivial | assumption | lcg_src | exact (Or.inr ⟨_, List.mem_cons_self, rfl, _, rfl⟩))
        rw [List.take_add_one, hc9, Option.toList_some, List.map_append]
        refine hJ2.append ?_
        subst hss
        unfold sz
        first
        | (rw [List.map_cons, if_pos rfl]; exact .cons _ _ .nil)
        | (rw [List.map_cons, if_neg (by decide)]; exact .cons _ _ .nil)
    · intro g ys2 hJ2
      rw [List.size_toArray, hvl, ← txI_len, List.take_length, hzs] at hJ2
      have hyl := hJ2.length
      rw [hzl] at hyl
      (try k_fold)
      k_steps
      rename IsRange _ _ _ _ _ _ _ _ => R9
      rename (News _ _ _ _) => NN
      rename Obj.IsDictOf _ _ (intKeyPairs _) => hd9
      show wpAny _ _ _ _ _ _
      k_dflt (refine' rg_few (room := room) ["ends"] rfl R9 hzl hn ?g3 NN hd9 dA ?_ ?_; (case g3 => k_asm))
      · intro i ai k t o oA v1 kvs B u h tk own hai hk hoff hdo hA9 hFew F9 N9
        (try k_fold)
        have hup : ∀ e, ai < e → zs.length - i ≤ e := fun e h => Nat.le_trans (Nat.le_of_eq (by rw [← hai]; exact (congrArg (· - i) (Nat.add_right_comm ai i 1)).trans (Nat.add_sub_cancel ..))) h
        have hk00 : 0 ≤ k := hk ▸ Int.natCast_nonneg ai
        simp only [List.map_cons] at hoff
        simp only [List.cons_append] at N9
        (try k_fold)
        (try (refine let_m F9 ?_; clear F9; intro m9q F9m))
        k_steps
        rename IsRange _ _ _ _ _ _ _ _ => R8
        rename (News _ _ _ _) => N8
        show wpAny _ _ _ _ _ _
        k_dflt (refine' cpT_ends (room := room) (zs := zs) (B := B) rfl R8 hk ?e2 hai ?e4 ?e5 N8 ?_ ?_; (case e5 => k_asm); (case e2 => omega); (case e4 => omega))
        · intro j e k' t' ys I oI C oC D m₂ h2 tk2 E' hke hej hae hel hJ hC hx F8 N8' off ne
          simp only [LCg.Off3, and_true] at off
          (try k_fold)
          have hk01 : 0 ≤ k' := hke ▸ Int.natCast_nonneg e
          obtain ⟨ve, hve, hVB⟩ := hFew.has e (hup e hae) hel
          rw [← hke] at hve
          generalize hBe : B e = be at hVB
          cases hVB with
          | none =>
            (try k_fold)
            (try (refine let_m F9 ?_; clear F9; intro m9q F9m))
            k_steps
            refine' LCg.CompEnd.intro ?lpF ?lpN _ ?lpa ?lpo ?lps ⟨(), rfl, ?_⟩
            (case lpF => k_asm)
            (case lpN => k_asm)
            (case lpa => kcf_all)
            (case lpo => first | assumption | (simp only [LCg.Off3, and_true]; done) | (simp only [LCg.Off3, and_true]; assumption))
            (case lps => first | trivial | assumption | lcg_src | exact (Or.inr ⟨_, List.mem_cons_self, rfl, _, rfl⟩))
            rw [endsE_no (k := k') (by rw [hke, hej]; rfl) (by unfold okE; rw [hke, Int.toNat_natCast, hBe]; rfl)]
            exact hJ
          | some =>
            have htk : List.take (min k'.toNat zs.length - k.toNat) (List.drop k.toNat zs) = (zs.drop ai).take (e - ai) := by rw [hke, hk, Int.toNat_natCast, Int.toNat_natCast, Nat.min_eq_left hel]
            have ht0 : 0 ≤ (List.take (min k'.toNat zs.length - k.toNat) (List.drop k.toNat zs)).sum := sum_nn _ fun x hx => hz0 x (List.mem_of_mem_drop (List.mem_of_mem_take hx))
            (try k_fold)
            (try (refine let_m F9 ?_; clear F9; intro m9q F9m))
            k_steps
            all_goals
              refine' LCg.CompEnd.intro ?lpF ?lpN _ ?lpa ?lpo ?lps ⟨(), rfl, ?_⟩
              (case lpF => k_asm)
              (case lpN => k_asm)
              (case lpa => kcf_all)
              (case lpo => first | assumption | (simp only [LCg.Off3, and_true]; done) | (simp only [LCg.Off3, and_true]; assumption))
              (case lps => first | trivial | assumption | lcg_src | exact (Or.inr ⟨_, List.mem_cons_self, rfl, _, rfl⟩))
            · rename (_ ≤ width) => hle
              rw [endsE_yes (k := k') (by rw [hke, hej]; rfl) (by rw [hke]; exact okE_iff.mpr ⟨by rw [hBe]; simp, by rw [← htk]; exact (hri _ ht0).mp hle⟩)]
              exact ints_snoc' hJ _ _
            · rename (¬ _ ≤ width) => hle
              rw [endsE_no (k := k') (by rw [hke, hej]; rfl) (by rw [hke]; exact Bool.eq_false_iff.mpr fun h => hle ((hri _ ht0).mpr (by rw [htk]; exact (okE_iff.mp h).2)))]
              exact hJ
        · intro g ys hJ
          have hkl := hFew.len
          have hyl3 := hJ.length
          have hel3 := endsE_len room zs B ai (i + 1)
          (try k_fold)
          (try (refine let_m F9 ?_; clear F9; intro m9q F9m))
          k_steps
          · skip
            refine' rg_end (_, _, _, fun e => if e = ai then none else B e) ?rF ?rN ?rn ?ro ?ra ?rr ?rj
            (case rF => k_asm)
            (case rN => k_asm)
            (case rn => kcf_all)
            (case ro => kcf_all)
            (case ra => exact rfl)
            (case rr => (intro z9 h93; exact ends_m h93 rfl))
            (case rj => (rename (decide _ = true) => hE9; exact fewJ_mk (by with_reducible assumption) (by with_reducible assumption) (hFew.step hai hk .none (best_no hai (of_decide_eq_true hE9)))))
          · rename (News _ _ _ _) => N7
            rename (decide _ = false) => hE9
            have hne9 : endsE room zs B ai (i + 1) ≠ [] := of_decide_eq_false hE9
            show wpAny _ _ _ _ _ _
            k_dflt (refine' cpU_listC (its := ys.toArray) (fun j ys3 => IntsAre ys3 (((endsE room zs B ai (i + 1)).take j).map fun k => (((B k.toNat).getD 0 : Nat) : Int))) ?mF N7 (Or.inr ⟨LCg.lst ys, by simp, rfl, _, rfl⟩) rfl ?msz .nil ?_ ?_; (case mF => k_asm); (case msz => (rw [List.size_toArray]; omega)))
            · intro j v ys3 I oI C oC D m₂ h3 tk3 E' hv hJ3 hC hx F7 N7' off ne
              simp only [LCg.Off3, and_true] at off
              (try k_fold)
              obtain ⟨n9, t9, hn9, rfl⟩ := ints_at hJ (by simpa using hv)
              obtain ⟨⟨e, rfl, he1, he2⟩, hok⟩ := endsE_mem.mp (List.mem_of_getElem? hn9)
              obtain ⟨hbn, _⟩ := okE_iff.mp hok
              obtain ⟨b, hb⟩ := Option.ne_none_iff_exists'.mp hbn
              obtain ⟨ve, hve, hVB⟩ := hFew.has e (hup e he1) (hai ▸ he2)
              rw [hb] at hVB
              cases hVB
              (try k_fold)
              (try (refine let_m F9 ?_; clear F9; intro m9q F9m))
              k_steps
              refine' LCg.CompEnd.intro ?lpF ?lpN _ ?lpa ?lpo ?lps ⟨(), rfl, ?_⟩
              (case lpF => k_asm)
              (case lpN => k_asm)
              (case lpa => kcf_all)
              (case lpo => first | assumption | (simp only [LCg.Off3, and_true]; done) | (simp only [LCg.Off3, and_true]; assumption))
              (case lps => first | trivial | assumption | lcg_src | exact (Or.inr ⟨_, List.mem_cons_self, rfl, _, rfl⟩))
              rw [List.take_add_one, hn9, Option.toList_some, List.map_append]
              refine hJ3.append ?_
              rw [List.map_cons, Int.toNat_natCast, hb]
              exact .cons _ _ .nil
            · intro g ys3 hJ3
              rw [List.size_toArray, hyl3, List.take_length] at hJ3
              have hmkF11 : OwnW := True.intro
              k_with "call builtin:min" => (guard_hyp hmkF11; k_here; k_dflt (refine' kso_min ?k1 ?k2 ?k3 ?k4 ?k5 ?k6 ?_; (case k1 => k_asm); (case k2 => k_asm); (case k3 => is_list); (case k4 => with_reducible assumption); (case k5 => (rw [List.length_map]; exact List.length_pos_iff.mpr hne9)); (case k6 => rfl)); intro h' M' t' tk' F' N' hM hmin)
              (try k_fold)
              (try (refine let_m F9 ?_; clear F9; intro m9q F9m))
              k_steps
              rename (_ ∈ List.map _ (endsE _ _ _ _ _)) => hM
              rename (∀ _, _ ∈ List.map _ (endsE _ _ _ _ _) → _) => hmin
              obtain ⟨b, hMb, hbest⟩ := best_yes hai hM hmin
              refine' rg_end (_, _, _, fun e => if e = ai then some (1 + b) else B e) ?rF ?rN ?rn ?ro ?ra ?rr ?rj
              (case rF => k_asm)
              (case rN => k_asm)
              (case rn => kcf_all)
              (case ro => kcf_all)
              (case ra => exact rfl)
              (case rr => (intro z9 h93; exact ends_m h93 rfl))
              (case rj => exact fewJ_mk (by with_reducible assumption) (by with_reducible assumption) (hFew.step hai hk (vb_some hMb) hbest))
      · intro o oA v1 kvs B u h tk hdo hA9 hFew F9 N9
        have hkl := hFew.len
        (try k_fold)
        (try (refine let_m F9 ?_; clear F9; intro m9q F9m))
        k_steps
        rename (News _ _ _ _) => N7
        by_cases hall : ∀ e, e ≤ zs.length → B e ≠ none
        · obtain ⟨ve, hve, hVB⟩ := hFew.has 0 (Nat.le_of_eq (Nat.sub_self _)) (Nat.zero_le _)
          have hve2 : valueAt kvs (0 : Int) = some ve := hve
          obtain ⟨b, hb⟩ := Option.ne_none_iff_exists'.mp (hall 0 (Nat.zero_le _))
          rw [hb] at hVB
          cases hVB
          k_dflt (refine' nv_contains (kvs := kvs) rfl ?nvF ?nvN ?nvv ?nvp hdo (trN kvs) (trN_ok hFew) ?_; (case nvF => k_asm); (case nvN => exact N7); (case nvv => k_mem); (case nvp => k_mem))
          intro h' tk' F' N'
          rw [trN_all hFew hall]
          (try k_fold)
          (try (refine let_m F9 ?_; clear F9; intro m9q F9m))
          k_steps
          exact hret B _ _ _ hFew.done (.inr ⟨hall, b, _, hb, rfl⟩) (by k_asm) (few_news (by with_reducible assumption))
        · have hex : ∃ e, e ≤ zs.length ∧ B e = none := by
            refine Classical.byContradiction fun hc => hall fun e he hb => hc ⟨e, he, hb⟩
          k_dflt (refine' nv_contains (kvs := kvs) rfl ?nvF ?nvN ?nvv ?nvp hdo (trN kvs) (trN_ok hFew) ?_; (case nvF => k_asm); (case nvN => exact N7); (case nvv => k_mem); (case nvp => k_mem))
          intro h' tk' F' N'
          rw [trN_some hFew hex]
          (try k_fold)
          (try (refine let_m F9 ?_; clear F9; intro m9q F9m))
          k_steps
          exact hret B _ _ _ hFew.done (.inl ⟨hex, rfl⟩) (by k_asm) (few_news (by with_reducible assumption))
theorem layF12 : True := by
  k_with "my call ref" => ((k_here; (with_reducible show wpAny _ _ (PySem.call (Value.ref 385) _) _ _ _); k_dflt (refine' (law_fewest_at _ _ _ _ _ _ _ _ _ _ _ ?fcsZ9 ?fwZ9 ?fnZ9 ?fn1Z9 ?fBZ9 ?fw0Z9 ?fw1Z9) _ _ _ _ _ _ _ _ _ _ _ _ _ _ _ _ _ _ _ _ ?kBZ9 ?kFZ9 ?kXZ9 ?kNZ9 ?kTZ9 ?kKZ9 ?kDZ9 ?kUZ9 ?_; (case kBZ9 => k_asm); (case kFZ9 => k_asm); (case kXZ9 => k_asm); (case kNZ9 => k_asm); (case fBZ9 => with_reducible assumption); (case fcsZ9 => with_reducible assumption); (case fwZ9 => with_reducible assumption); (case fnZ9 => omega); (case fn1Z9 => omega); (case fw0Z9 => omega); (case fw1Z9 => omega); (case kTZ9 => k_asm); (case kKZ9 => first | exact rfl | assumption); (case kDZ9 => ktr_room); (case kUZ9 => ktr_units)); intro B'q v'q h'q tk'q hBest'q hV'q F'q N'q))
  exact True.intro

abbrev RDraw (news : List (Addr × Obj)) (p r : Addr) (ws : List Value) (spot many : Int) : Cont := fun h₀ L m s Q _ => ∀ (d : Int) (t : Tok) (sp gr : Int) (t1 t2 : Tok) (nn : Nat) (h' : Heap) (tk' : Nat), 0 ≤ d → d < many → spot ≤ sp → sp ≤ spot + 1 → 0 ≤ gr → Fr h₀ L h' m → News h₀ L h' ((p, listOf #[.ref r, .int sp t1, .int gr t2] nn) :: (r, LCg.lst ws) :: news) → Q (.int d t) { s with heap := h', toks := tk' }
section
variable {prog : Program} {w : World} {A : Around} {E : Value → Shared → Prop} {s : Shared} {a b : Addr} {xs : List Value} {ns : List Int} {h₀ : Heap} {L : Addr} {news : List (Addr × Obj)} {Q : Value → Shared → Prop}
theorem ne_nilI {bb : Bool} (N : News h₀ L s.heap ((b, W.listOf #[] 0) :: news)) (hm : (a, LCg.lst xs) ∈ (b, W.listOf #[] 0) :: news) (hi : IntsAre xs ns) (hu : A.units + 64 < cLine) (e : (!decide (ns = [])) = bb) (h : Q (.bool bb) s) : wpAny (model prog w) A (compareOp .NotEq (.ref a) (.ref b)) Q E s := by
  subst e
  exact ke_ne_ints (xs := xs) (ys := []) (ns := ns) (ms := []) ⟨_, (N _ hm).1, rfl, _, rfl⟩ ⟨_, (N _ (.head _)).1, rfl, _, rfl⟩ hi .nil hu h
theorem pow_18 {t u : Tok} (h : Q (.int 1000000000000000000 s.toks) { s with toks := s.toks + 1 }) : wpAny (model prog w) A (binaryOp .Pow (.int 10 t) (.int 18 u)) Q E s :=
  pow_int_small (by decide) (by decide) (by decide) (show Q (.int ((10 : Int) ^ (Int.toNat 18)) s.toks) _ from by rw [show (10 : Int) ^ (Int.toNat 18) = 1000000000000000000 by decide]; exact h)
theorem pow_any {x n : Int} {t u : Tok} (hn : 0 ≤ n) (hn2 : n ≤ 1000000) (ha : x.natAbs < 2 ^ 64) (h : ∀ y : Int, Q (.int y s.toks) { s with toks := s.toks + 1 }) : wpAny (model prog w) A (binaryOp .Pow (.int x t) (.int n u)) Q E s :=
  pow_int_small hn hn2 ha (h _)
end
theorem draw_endA {h₀ h' : Heap} {L p r : Addr} {m : Str → Option Value} {news : List (Addr × Obj)} {ws : List Value} {spot many d sp gr : Int} {t t1 t2 : Tok} {nn tk' : Nat} {s : Shared} {Q E : Value → Shared → Prop} (hret : RDraw news p r ws spot many h₀ L m s Q E)
    (F : Fr h₀ L h' m) (N : News h₀ L h' ((p, listOf #[.ref r, .int sp t1, .int gr t2] nn) :: (r, LCg.lst ws) :: news)) (d0 : 0 ≤ d) (d1 : d < many) (s0 : spot ≤ sp) (s1 : sp ≤ spot + 1) (g0 : 0 ≤ gr) : Q (.int d t) { s with heap := h', toks := tk' } :=
  hret d t sp gr t1 t2 nn h' tk' d0 d1 s0 s1 g0 F N
theorem draw_endB {h₀ h' : Heap} {L p r : Addr} {m : Str → Option Value} {news : List (Addr × Obj)} {ws : List Value} {spot many d sp gr : Int} {t t1 t2 : Tok} {nn tk' : Nat} {s : Shared} {Q E : Value → Shared → Prop} {x y : Addr × Obj} (hret : RDraw news p r ws spot many h₀ L m s Q E)
    (F : Fr h₀ L h' m) (N : News h₀ L h' (x :: y :: (p, listOf #[.ref r, .int sp t1, .int gr t2] nn) :: (r, LCg.lst ws) :: news)) (d0 : 0 ≤ d) (d1 : d < many) (s0 : spot ≤ sp) (s1 : sp ≤ spot + 1) (g0 : 0 ≤ gr) : Q (.int d t) { s with heap := h', toks := tk' } :=
  hret d t sp gr t1 t2 nn h' tk' d0 d1 s0 s1 g0 F fun q hq => N q (.tail _ (.tail _ hq))
theorem draw_g {y A : Int} {b : Bool} (h : y ≤ A) : 0 ≤ 2 * (A - y) + (if b = true then 1 else 0) := by split <;> omega
theorem nab {x : Int} (h0 : 0 ≤ x) (h1 : x < 2 ^ 64) : x.natAbs < 2 ^ 64 := Int.ofNat_lt.mp (by rw [Int.natAbs_of_nonneg h0]; exact h1)
theorem draw_b1 (c spot : Int) (h0 : 0 ≤ spot) (h1 : spot ≤ 1000) : (Int.fmod c 2147483587 + 20947 * spot + 3571).natAbs < 2 ^ 64 := by
  have a0 := Int.fmod_nonneg_of_pos c (show (0 : Int) < 2147483587 by decide)
  have a1 := Int.fmod_lt_of_pos c (show (0 : Int) < 2147483587 by decide)
  exact nab (Int.add_nonneg (Int.add_nonneg a0 (Int.mul_nonneg (by decide) h0)) (by decide)) (Int.lt_of_le_of_lt (Int.add_le_add_right (Int.add_le_add (Int.le_of_lt a1) (Int.mul_le_mul_of_nonneg_left h1 (by decide))) 3571) (by decide))
theorem draw_b2 (y spot : Int) (h0 : 0 ≤ spot) (h1 : spot ≤ 1000) : (Int.fmod y 2147483629 * (2 * spot + 7207) + 20947 * spot * spot + 31).natAbs < 2 ^ 64 := by
  have a0 := Int.fmod_nonneg_of_pos y (show (0 : Int) < 2147483629 by decide)
  have a1 := Int.fmod_lt_of_pos y (show (0 : Int) < 2147483629 by decide)
  generalize Int.fmod y 2147483629 = st at *
  have d0 : 0 ≤ 2 * spot + 7207 := Int.add_nonneg (Int.mul_nonneg (by decide) h0) (by decide)
  have b1 : st * (2 * spot + 7207) ≤ 2147483629 * 9207 := Int.mul_le_mul (Int.le_of_lt a1) (Int.add_le_add_right (Int.mul_le_mul_of_nonneg_left h1 (show (0 : Int) ≤ 2 by decide)) 7207) d0 (by decide)
  have b0 : 0 ≤ st * (2 * spot + 7207) := Int.mul_nonneg a0 d0
  have c1 : 20947 * spot * spot ≤ 20947000 * 1000 := Int.mul_le_mul (Int.mul_le_mul_of_nonneg_left h1 (show (0 : Int) ≤ 20947 by decide)) h1 h0 (by decide)
  have c0 : 0 ≤ 20947 * spot * spot := Int.mul_nonneg (Int.mul_nonneg (by decide) h0) h0
  generalize st * (2 * spot + 7207) = u at *
  generalize 20947 * spot * spot = v at *
  exact nab (Int.add_nonneg (Int.add_nonneg b0 c0) (by decide)) (Int.lt_of_le_of_lt (Int.add_le_add_right (Int.add_le_add b1 c1) 31) (by decide))
theorem layL31 : True := by
  k_with "my compareOp NotEq ref ref" => ((guard_hyp hmkL3); (k_here; k_dflt (refine' (id : Hold _ → _) ?_)))
  k_with "my binaryOp Pow int int" => ((guard_hyp hmkL3); (k_here; first | with_reducible refine pow_18 ?_ | (k_dflt (refine' pow_any ?p1Z9 ?p2Z9 ?p3Z9 ?_; (case p1Z9 => decide); (case p2Z9 => decide); (case p3Z9 => first | exact draw_b1 _ _ (by assumption) (by assumption) | exact draw_b2 _ _ (by assumption) (by assumption) | decide)); intro y'q)))
  exact True.intro

theorem law_draw_at (w : World) (news : List (Addr × Obj)) (p r : Addr) (ws : List Value) (row : List Int) (spot great many : Int) (t1 t2 t3 : Tok) (nn : Nat) (hI : IntsAre ws row) (hl : row.length ≤ 40) (h0 : 0 ≤ spot) (h1 : spot ≤ 1000) (hg : 0 ≤ great) (hm : 1 ≤ many) (hm2 : many ≤ 100) (hrp : r ≠ p) (hnp : ∀ q ∈ news, q.1 ≠ p) :
    CG w 4 359 [.ref p, .int many t3] ((p, listOf #[.ref r, .int spot t1, .int great t2] nn) :: (r, LCg.lst ws) :: news) (RDraw news p r ws spot many) := by
  have hoff : OwnOff news [p] := fun q hq b hb => by rw [List.mem_singleton.mp hb]; exact hnp q hq
  have hmkL3 : OwnW := True.intro
  w_top off
  intro mean mg mb dp un gd cn cs a ccd cl outer A₀ base h₀ L m s Q E B F X N T hk hd hu hret
  refine wpAny_call ?_
  k_dflt cell_enter
  (try (refine let_AE ?_; intro A9q e9q)); (try ((with_reducible rename Fr _ _ _ _ => F9q); refine let_m F9q ?_; clear F9q; intro m9q F'))
  (try k_fold)
  k_steps
  · exact draw_endA hret (by with_reducible assumption) (by with_reducible assumption) (Int.fmod_nonneg_of_pos _ (by omega)) (Int.fmod_lt_of_pos _ (by omega)) (Int.le_refl _) (by omega) (Int.fdiv_nonneg hg (by omega))
  rename News _ _ _ ((_, W.listOf #[] 0) :: _) => N9
  cases hrow : row with
  | nil =>
    have hr0 : row.length = 0 := by rw [hrow]; rfl
    k_dflt (refine' ne_nilI (xs := ws) (ns := row) (bb := false) N9 (by simp) hI ?hu (by rw [hrow]; rfl) ?_; (case hu => first | (simp only [A9q]; first | units_room | ktr_units | ke_room) | units_room | ktr_units | ke_room))
    clear hrow
    (try k_fold)
    k_steps
    exact draw_endB hret (by with_reducible assumption) (by with_reducible assumption) (Int.fmod_nonneg_of_pos _ (by omega)) (Int.fmod_lt_of_pos _ (by omega)) (by omega) (Int.le_refl _) hg
  | cons c0 row' =>
    have hr0 : 0 < row.length := by rw [hrow]; exact Nat.succ_pos _
    k_dflt (refine' ne_nilI (xs := ws) (ns := row) (bb := true) N9 (by simp) hI ?hu (by rw [hrow]; rfl) ?_; (case hu => first | (simp only [A9q]; first | units_room | ktr_units | ke_room) | units_room | ktr_units | ke_room))
    clear hrow
    (try k_fold)
    k_steps
    · exact draw_endB hret (by with_reducible assumption) (by with_reducible assumption) (Int.fmod_nonneg_of_pos _ (by omega)) (Int.fmod_lt_of_pos _ (by omega)) (by omega) (Int.le_refl _) (Int.fdiv_nonneg (by first | exact draw_g (by with_reducible assumption) | omega) (by omega))
    all_goals exact draw_endB hret (by with_reducible assumption) (by with_reducible assumption) (Int.fmod_nonneg_of_pos _ (by omega)) (Int.fmod_lt_of_pos _ (by omega)) (by omega) (Int.le_refl _) hg

/-- an entry taken out of the ledger -/
inductive Sel (p : Addr) (o : Obj) : List (Addr × Obj) → List (Addr × Obj) → Prop
  | hd {l : List (Addr × Obj)} : Sel p o ((p, o) :: l) l
  | tl {x : Addr × Obj} {l l' : List (Addr × Obj)} : Sel p o l l' → Sel p o (x :: l) (x :: l')
theorem Sel.all {p : Addr} {o : Obj} {l l' : List (Addr × Obj)} (h : Sel p o l l') : ∀ q ∈ (p, o) :: l', q ∈ l := by
  induction h with
  | hd => exact fun q hq => hq
  | tl h ih =>
    intro q hq
    rcases List.mem_cons.mp hq with rfl | hq
    · exact .tail _ (ih _ (.head _))
    · rcases List.mem_cons.mp hq with rfl | hq
      · exact .head _
      · exact .tail _ (ih _ (.tail _ hq))
theorem CG.sub {w : World} {k : Nat} {f : Addr} {vs : List Value} {nw nw' : List (Addr × Obj)} {R : Cont} (h : CG w k f vs nw R) (hs : ∀ q ∈ nw, q ∈ nw') : CG w k f vs nw' R := by
  w_top off
  intro mean mg mb dp un gd cn cs a ccd cl outer A₀ base h₀ L m s Q E B F X N
  exact h mean mg mb dp un gd cn cs a ccd cl outer A₀ base h₀ L m s Q E B F X fun q hq => N q (hs q hq)
theorem law_draw_gen (w : World) {nw nw1 rest : List (Addr × Obj)} {p r : Addr} {ws : List Value} {row : List Int} {spot great many : Int} {t1 t2 t3 : Tok} {nn : Nat} (hI : IntsAre ws row) (hl : row.length ≤ 40) (h0 : 0 ≤ spot) (h1 : spot ≤ 1000) (hg : 0 ≤ great) (hm : 1 ≤ many) (hm2 : many ≤ 100)
    (hs1 : Sel p (listOf #[.ref r, .int spot t1, .int great t2] nn) nw nw1) (hs2 : Sel r (LCg.lst ws) nw1 rest) (hrp : r ≠ p) (hnp : ∀ q ∈ rest, q.1 ≠ p) : CG w 4 359 [.ref p, .int many t3] nw (RDraw rest p r ws spot many) :=
  (law_draw_at w rest p r ws row spot great many t1 t2 t3 nn hI hl h0 h1 hg hm hm2 hrp hnp).sub fun q hq => by
    rcases List.mem_cons.mp hq with rfl | hq
    · exact hs1.all _ (.head _)
    · exact hs1.all _ (.tail _ (hs2.all _ hq))
abbrev RPick (news : List (Addr × Obj)) (p r : Addr) (ws vs : List Value) (spot : Int) : Cont := fun h₀ L m s Q _ => ∀ (i : Nat) (v : Value) (sp gr : Int) (t1 t2 : Tok) (nn : Nat) (h' : Heap) (tk' : Nat), vs[i]? = some v → spot ≤ sp → sp ≤ spot + 1 → 0 ≤ gr → Fr h₀ L h' m → News h₀ L h' ((p, listOf #[.ref r, .int sp t1, .int gr t2] nn) :: (r, LCg.lst ws) :: news) → Q v { s with heap := h', toks := tk' }
theorem layL41 : True := by
  k_with "my k_all" => (with_reducible assumption)
  k_with "my call ref" => ((k_here; (with_reducible show wpAny _ _ (PySem.call (Value.ref 359) _) _ _ _); k_dflt (refine' (law_draw_gen _ ?pIZ9 ?plZ9 ?p0Z9 ?p1Z9 ?pgZ9 ?pmZ9 ?pm2Z9 ?ps1Z9 ?ps2Z9 ?prpZ9 ?pnpZ9) _ _ _ _ _ _ _ _ _ _ _ _ _ _ _ _ _ _ _ _ ?kBZ9 ?kFZ9 ?kXZ9 ?kNZ9 ?kTZ9 ?kKZ9 ?kDZ9 ?kUZ9 ?_; (case kBZ9 => k_asm); (case kFZ9 => k_asm); (case kXZ9 => k_asm); (case kNZ9 => k_asm); (case ps1Z9 => (repeat (first | with_reducible exact Sel.hd | with_reducible apply Sel.tl))); (case ps2Z9 => (repeat (first | with_reducible exact Sel.hd | with_reducible apply Sel.tl))); (case pIZ9 => with_reducible assumption); (case plZ9 => omega); (case p0Z9 => omega); (case p1Z9 => omega); (case pgZ9 => omega); (case pmZ9 => omega); (case pm2Z9 => omega); (case prpZ9 => first | with_reducible assumption | k_ne); (case pnpZ9 => first | with_reducible assumption | k_all); (case kTZ9 => k_asm); (case kKZ9 => first | exact rfl | assumption); (case kDZ9 => ktr_room); (case kUZ9 => ktr_units)); intro d'q td'q sp'q gr'q tp1q9 tp2q9 nn'q h'q tk'q d0'q d1'q s0'q s1'q g0'q F'q N'q))
  exact True.intro
section
variable {prog : Program} {w : World} {A : Around} {E : Value → Shared → Prop} {s : Shared} {l : Addr} {vs : List Value} {Q : Value → Shared → Prop}
theorem len_anyL (hl : s.heap.IsList l vs.toArray) (hz : vs.length ≤ 16384) (h : Q (.int vs.length (s.toks + 1)) { s with toks := s.toks + 1 + 1 }) : wpAny (model prog w) A (call (.builtin "len") [.ref l]) Q E s :=
  kun_lenL hl (by simp) (by omega) h
theorem item_anyL {value slice : PySem.Expr} {k : Int} {u : Tok} (hl : s.heap.IsList l vs.toArray) (h0 : 0 ≤ k) (h1 : k < vs.length) (hz : vs.length ≤ 16384) (h : ∀ v, vs[k.toNat]? = some v → Q v s)
    (hs : subscripted slice false (.ref l) (.int k u) = operate [.ref l, .int k u] (getItem (.ref l) (.int k u)) := by with_unfolding_all rfl) : wpAny (model prog w) A (subscriptTail value slice (.ref l) (.int k u)) Q E s :=
  have hi : vs[k.toNat]? = some (vs[k.toNat]'(by omega)) := List.getElem?_eq_getElem (by omega)
  item_lit hl h0 (by omega) hi (h _ hi) hs
end
theorem pick_end {h₀ h' : Heap} {L p r : Addr} {m : Str → Option Value} {news : List (Addr × Obj)} {ws vs : List Value} {spot sp gr : Int} {v : Value} {t1 t2 : Tok} {nn tk' i : Nat} {s : Shared} {Q E : Value → Shared → Prop} (hret : RPick news p r ws vs spot h₀ L m s Q E)
    (F : Fr h₀ L h' m) (N : News h₀ L h' ((p, listOf #[.ref r, .int sp t1, .int gr t2] nn) :: (r, LCg.lst ws) :: news)) (hv : vs[i]? = some v) (s0 : spot ≤ sp) (s1 : sp ≤ spot + 1) (g0 : 0 ≤ gr) : Q v { s with heap := h', toks := tk' } :=
  hret i v sp gr t1 t2 nn h' tk' hv s0 s1 g0 F N
theorem law_pick_head (w : World) (news : List (Addr × Obj)) (p r q : Addr) (ws vs : List Value) (row : List Int) (spot great : Int) (t1 t2 : Tok) (nn nq : Nat) (hI : IntsAre ws row) (hl : row.length ≤ 40) (h0 : 0 ≤ spot) (h1 : spot ≤ 1000) (hg : 0 ≤ great) (hm : 1 ≤ vs.length) (hm2 : vs.length ≤ 100) (hrp : r ≠ p) (hqp : q ≠ p) (hnp : ∀ x ∈ news, x.1 ≠ p) :
    CG w 5 366 [.ref p, .ref q] ((p, listOf #[.ref r, .int spot t1, .int great t2] nn) :: (r, LCg.lst ws) :: (q, listOf vs.toArray nq) :: news) (RPick ((q, listOf vs.toArray nq) :: news) p r ws vs spot) := by
  w_top off
  intro mean mg mb dp un gd cn cs a ccd cl outer A₀ base h₀ L m s Q E B F X N T hk hd hu hret
  refine wpAny_call ?_
  k_dflt cell_enter
  (try (refine let_AE ?_; intro A9q e9q)); (try ((with_reducible rename Fr _ _ _ _ => F9q); refine let_m F9q ?_; clear F9q; intro m9q F'))
  have hmkL41 : OwnW := True.intro
  k_with "call builtin:len" => (guard_hyp hmkL41; k_here; k_dflt (refine' len_anyL (vs := vs) ?k1 ?k2 ?_; (case k1 => is_list); (case k2 => omega)))
  have hmkL42 : OwnW := True.intro
  k_with "subscriptTail" => (guard_hyp hmkL42; k_here; k_dflt (refine' item_anyL (vs := vs) ?k1 ?k2 ?k3 ?k4 ?_ ?k6; (case k1 => is_list); (case k2 => omega); (case k3 => omega); (case k4 => omega); (case k6 => with_unfolding_all rfl)); intro v' hv')
  (try k_fold)
  k_steps
  exact pick_end hret (by with_reducible assumption) (by with_reducible assumption) (by with_reducible assumption) (by omega) (by omega) (by omega)
theorem law_pick_gen (w : World) {nw nw1 nw2 rest : List (Addr × Obj)} {p r q : Addr} {ws vs : List Value} {row : List Int} {spot great : Int} {t1 t2 : Tok} {nn nq : Nat} (hI : IntsAre ws row) (hl : row.length ≤ 40) (h0 : 0 ≤ spot) (h1 : spot ≤ 1000) (hg : 0 ≤ great) (hm : 1 ≤ vs.length) (hm2 : vs.length ≤ 100)
    (hs1 : Sel p (listOf #[.ref r, .int spot t1, .int great t2] nn) nw nw1) (hs2 : Sel r (LCg.lst ws) nw1 nw2) (hs3 : Sel q (listOf vs.toArray nq) nw2 rest) (hrp : r ≠ p) (hqp : q ≠ p) (hnp : ∀ q ∈ rest, q.1 ≠ p) : CG w 5 366 [.ref p, .ref q] nw (RPick ((q, listOf vs.toArray nq) :: rest) p r ws vs spot) :=
  (law_pick_head w rest p r q ws vs row spot great t1 t2 nn nq hI hl h0 h1 hg hm hm2 hrp hqp hnp).sub fun x hx => by
    rcases List.mem_cons.mp hx with rfl | hx
    · exact hs1.all _ (.head _)
    · rcases List.mem_cons.mp hx with rfl | hx
      · exact hs1.all _ (.tail _ (hs2.all _ (.head _)))
      · exact hs1.all _ (.tail _ (hs2.all _ (.tail _ (hs3.all _ hx))))
theorem pick3 {a b c v : Value} {i : Nat} (h : ([a, b, c] : List Value)[i]? = some v) : v = a ∨ v = b ∨ v = c := by
  match i, h with
  | 0, h => exact .inl (Option.some.inj h).symm
  | 1, h => exact .inr (.inl (Option.some.inj h).symm)
  | 2, h => exact .inr (.inr (Option.some.inj h).symm)
theorem pick_way {a b : Tok} {v : Value} {i : Nat} (h : ([.str wQ a, .str wB b] : List Value)[i]? = some v) : ∃ way t, v = .str way t ∧ (way = wQ ∨ way = wB) := by
  match i, h with
  | 0, h => exact ⟨_, _, (Option.some.inj h).symm, .inl rfl⟩
  | 1, h => exact ⟨_, _, (Option.some.inj h).symm, .inr rfl⟩
theorem law_pen_k (w : World) {news : List (Addr × Obj)} {ad : Addr} {vs : List Value} {ns : List Int} (hI : IntsAre vs ns) (hn : ns.length ≤ 63) : CG w 1 352 [.ref ad] news (fun h₀ L m s Q _ => h₀.IsList ad vs.toArray ∧ ∀ (r p : Addr) (ws : List Value) (row : List Int) (t1 t2 : Tok) (h' : Heap) (tk' : Nat), IntsAre ws row → row.length ≤ 40 → Fr h₀ L h' m → News h₀ L h' ((p, listOf #[.ref r, .int 0 t1, .int 0 t2] 0) :: (r, LCg.lst ws) :: news) → LCg.Off1 r news → (@LT.lt Nat _ r p ∧ AllLt p news) → Q (.ref p) { s with heap := h', toks := tk' }) := by
  w_top off
  intro mean mg mb dp un gd cn cs a ccd cl outer A₀ base h₀ L m s Q E B F X N T hk hd hu hret
  refine law_pen_at w news ad vs ns hI hn mean mg mb dp un gd cn cs a ccd cl outer A₀ base h₀ L m s Q E B F X N T hk hd hu ⟨hret.1, ?_⟩
  intro r p ws t1 t2 h' tk' hI' F' N' o l
  exact hret.2 r p ws _ t1 t2 h' tk' hI' (by rw [List.length_take]; omega) F' N' o l
theorem layL42 : True := by
  k_with "my call ref" => ((k_here; (with_reducible show wpAny _ _ (PySem.call (Value.ref 352) _) _ _ _); k_dflt (refine' called (law_pen_k _ (by with_reducible assumption) (by omega)) ?kBZ9 ?kFZ9 ?kXZ9 ?kNZ9 ?kTZ9 ?kKZ9 ?kDZ9 ?kUZ9 ?_; (case kBZ9 | kFZ9 | kXZ9 | kNZ9 | kTZ9 => k_asm); (case kKZ9 => first | exact rfl | assumption); (case kDZ9 => ktr_room); (case kUZ9 => ktr_units)); refine' ⟨?klZ9, ?_⟩; (case klZ9 => k_asm); intro r'q p'q ws'q row'q t1'q t2'q h'q tk'q hI'q hl'q F'q N'q o'q l'q; (try simp only [LCg.Off1, AllLt, and_true] at o'q l'q)))
  exact True.intro

def SGN : List Int := [97, 32, 61, 63, 9, 233, 255, 256, 8364, 128512]
def SgZ (z : Str) : Prop := ∃ c : Nat, z = ⟨#[c]⟩ ∧ (c : Int) ∈ SGN
inductive SgL : List Value → Prop
  | nil : SgL []
  | cons {z : Str} {t : Tok} {vs : List Value} : SgZ z → SgL vs → SgL (.str z t :: vs)
theorem SgL.get {vs : List Value} (h : SgL vs) : ∀ {i : Nat} {v : Value}, vs[i]? = some v → ∃ z t, v = .str z t ∧ SgZ z := by
  induction h with
  | nil => intro i v e; simp at e
  | @cons z t vs a _ ih =>
    intro i v e
    cases i with
    | zero => exact ⟨z, t, by simpa using e.symm, a⟩
    | succ i => exact ih (by simpa using e)
theorem sg0 : SgZ (Str.ofString "a") := ⟨97, by decide, by decide⟩
theorem sg1 : SgZ (Str.ofString " ") := ⟨32, by decide, by decide⟩
theorem sg2 : SgZ (Str.ofString "=") := ⟨61, by decide, by decide⟩
theorem sg3 : SgZ (Str.ofString "?") := ⟨63, by decide, by decide⟩
theorem sg4 : SgZ (Str.ofString "\t") := ⟨9, by decide, by decide⟩
theorem sg5 : SgZ (Str.ofString "é") := ⟨233, by decide, by decide⟩
theorem sg6 : SgZ (Str.ofString "ÿ") := ⟨255, by decide, by decide⟩
theorem sg7 : SgZ (Str.ofString "Ā") := ⟨256, by decide, by decide⟩
theorem sg8 : SgZ (Str.ofString "€") := ⟨8364, by decide, by decide⟩
theorem sg9 : SgZ (Str.ofString "😀") := ⟨128512, by decide, by decide⟩
theorem sgl5 {t0 t1 t2 t3 t4 : Tok} {i : Nat} {v : Value} (h : ([.str (Str.ofString "a") t0, .str (Str.ofString " ") t1, .str (Str.ofString "=") t2, .str (Str.ofString "?") t3, .str (Str.ofString "\t") t4] : List Value)[i]? = some v) : ∃ z t, v = .str z t ∧ SgZ z :=
  SgL.get (.cons sg0 (.cons sg1 (.cons sg2 (.cons sg3 (.cons sg4 .nil))))) h
theorem sgl7 {t0 t1 t2 t3 t4 t5 t6 : Tok} {i : Nat} {v : Value} (h : ([.str (Str.ofString "a") t0, .str (Str.ofString " ") t1, .str (Str.ofString "=") t2, .str (Str.ofString "?") t3, .str (Str.ofString "\t") t4, .str (Str.ofString "é") t5, .str (Str.ofString "ÿ") t6] : List Value)[i]? = some v) : ∃ z t, v = .str z t ∧ SgZ z :=
  SgL.get (.cons sg0 (.cons sg1 (.cons sg2 (.cons sg3 (.cons sg4 (.cons sg5 (.cons sg6 .nil))))))) h
theorem sgl10 {t0 t1 t2 t3 t4 t5 t6 t7 t8 t9 : Tok} {i : Nat} {v : Value} (h : ([.str (Str.ofString "a") t0, .str (Str.ofString " ") t1, .str (Str.ofString "=") t2, .str (Str.ofString "?") t3, .str (Str.ofString "\t") t4, .str (Str.ofString "é") t5, .str (Str.ofString "ÿ") t6, .str (Str.ofString "Ā") t7, .str (Str.ofString "€") t8, .str (Str.ofString "😀") t9] : List Value)[i]? = some v) : ∃ z t, v = .str z t ∧ SgZ z :=
  SgL.get (.cons sg0 (.cons sg1 (.cons sg2 (.cons sg3 (.cons sg4 (.cons sg5 (.cons sg6 (.cons sg7 (.cons sg8 (.cons sg9 .nil)))))))))) h
theorem sg_room {zs : List Str} (h : ∀ z ∈ zs, SgZ z) (hl : zs.length ≤ 64) : (zs.map (·.length)).sum + zs.length * 64 ≤ 16777216 := by
  have : (zs.map (·.length)).sum = zs.length := by
    clear hl
    induction zs with
    | nil => rfl
    | cons z r ih =>
      obtain ⟨c, rfl, _⟩ := h z (.head _)
      rw [List.map_cons, List.sum_cons, ih fun y hy => h y (.tail _ hy), List.length_cons]
      show 1 + _ = _; omega
  omega
/-- the pen and the signs after i turns -/
def PenJ (i : Nat) (c : Int × Int × Tok × Tok × Nat × List Str) (ys : List Value) : Prop := StrsAre ys c.2.2.2.2.2 ∧ c.2.2.2.2.2.length = i ∧ (∀ z ∈ c.2.2.2.2.2, SgZ z) ∧ 0 ≤ c.1 ∧ c.1 ≤ 1 + 2 * (i : Int) ∧ 0 ≤ c.2.1
theorem penJ_step {i : Nat} {zs : List Str} {ys : List Value} {z : Str} {t : Tok} {sp gr : Int} {t1 t2 : Tok} {nn : Nat} (h : StrsAre ys zs) (hl : zs.length = i) (hz : ∀ z ∈ zs, SgZ z) (hy : SgZ z) (h0 : 0 ≤ sp) (h1 : sp ≤ 1 + 2 * ((i : Int) + 1)) (g : 0 ≤ gr) : PenJ (i + 1) (sp, gr, t1, t2, nn, zs ++ [z]) (ys ++ [.str z t]) := by
  refine ⟨strs_snoc h z t, by dsimp only; rw [List.length_append, hl]; rfl, ?_, h0, by push_cast; exact h1, g⟩
  intro y hy'
  rcases List.mem_append.mp hy' with h | h
  · exact hz y h
  · rw [List.mem_singleton.mp h]; exact hy
section
variable {prog : Program} {w : World} {A : Around} {E : Value → Shared → Prop} {s : Shared} {h₀ : Heap} {L : Addr} {m : Str → Option Value} {env : Env} {elt : Expr} {x : Str} {scope : Scope} {cl : List (Str × Addr)} {Fin : Shared → List Value → List (Addr × Obj) → Prop}
theorem pen12 {d : Int} (d1 : d < 12) : (1 + d).toNat ≤ 12 := Int.toNat_le.mpr (by rw [Int.add_comm]; exact Int.add_one_le_of_lt d1)
/-- the comprehension that draws the signs -/
theorem cpU_pens {rg p r : Addr} {ws : List Value} {spot great d : Int} {rest : List (Addr × Obj)} {t1 t2 t₀ u₀ v₀ : Tok} {nn : Nat}
    (hh : A.handled = none) (hr : IsRange s.heap rg 0 (1 + d) 1 t₀ u₀ v₀) (d0 : 0 ≤ d) (d1 : d < 12) (F : Fr h₀ L s.heap m) (N : News h₀ L s.heap ((p, listOf #[.ref r, .int spot t1, .int great t2] nn) :: (r, LCg.lst ws) :: rest)) (s0 : 0 ≤ spot) (s1 : spot ≤ 1) (g0 : 0 ≤ great)
    (turn : Hold (∀ (i : Nat) (k : Int) (t : Tok) (sp gr : Int) (t1 t2 : Tok) (nn : Nat) (zs : List Str) ys I oI C oC D m₂ h tk (E' : Value → Shared → Prop), i < 12 → 0 ≤ sp → sp ≤ 1 + 2 * i → 0 ≤ gr → StrsAre ys zs → zs.length = i → (∀ z ∈ zs, SgZ z) → LCg.NsObj oC m₂ → m₂ x = some (.int k t) → Fr h₀ L h m → News h₀ L h ((I, oI) :: (C, oC) :: (D, LCg.lst ys) :: (p, listOf #[.ref r, .int sp t1, .int gr t2] nn) :: (r, LCg.lst ws) :: rest) → LCg.Off3 I C D ((p, listOf #[.ref r, .int sp t1, .int gr t2] nn) :: (r, LCg.lst ws) :: rest) → ((@Ne Nat I C) ∧ (@Ne Nat I D) ∧ (@Ne Nat C D)) →
      wpAny (model prog w) A (eval elt (compEnvC scope cl C env)) (LCg.CompEnd h₀ L m { s with heap := h, toks := tk } I oI C oC D (LCg.lst ys) AnySrc (fun y news' => ∃ c' : Int × Int × Tok × Tok × Nat × List Str, news' = (p, listOf #[.ref r, .int c'.1 c'.2.2.1, .int c'.2.1 c'.2.2.2.1] c'.2.2.2.2.1) :: (r, LCg.lst ws) :: rest ∧ PenJ (i + 1) c' (ys ++ [y]))) E' { s with heap := h, toks := tk }))
    (fin : Hold (∀ g sp gr t1 t2 nn zs ys, StrsAre ys zs → zs.length = (1 + d).toNat → (∀ z ∈ zs, SgZ z) → 0 ≤ sp → sp ≤ 25 → 0 ≤ gr → Fin { s with heap := g } ys ((p, listOf #[.ref r, .int sp t1, .int gr t2] nn) :: (r, LCg.lst ws) :: rest))) :
    wpAny (model prog w) A (pyIter (.ref rg)) (CpU prog w A h₀ L m env elt x scope cl Fin) E s :=
  cpU_range (n := (1 + d).toNat) (fun c : Int × Int × Tok × Tok × Nat × List Str => (p, listOf #[.ref r, .int c.1 c.2.2.1, .int c.2.1 c.2.2.2.1] c.2.2.2.2.1) :: (r, LCg.lst ws) :: rest)
    PenJ (spot, great, t1, t2, nn, [])
    hh hr (small_one (by omega) (by omega) (by omega) (by omega)) (rsz_up (by omega)) (by omega) F N ⟨.nil, rfl, (fun _ h => nomatch h), s0, by omega, g0⟩
    (fun i k t c ys I oI C oC D m₂ h tk E' hi _ hJ hC hx F₁ N₁ off ne => turn i k t c.1 c.2.1 c.2.2.1 c.2.2.2.1 c.2.2.2.2.1 c.2.2.2.2.2 ys I oI C oC D m₂ h tk E' (Nat.lt_of_lt_of_le hi (pen12 d1)) hJ.2.2.2.1 hJ.2.2.2.2.1 hJ.2.2.2.2.2 hJ.1 hJ.2.1 hJ.2.2.1 hC hx F₁ N₁ off ne)
    (fun g c ys hJ => fin g c.1 c.2.1 c.2.2.1 c.2.2.2.1 c.2.2.2.2.1 c.2.2.2.2.2 ys hJ.1 hJ.2.1 hJ.2.2.1 hJ.2.2.2.1 (Int.le_trans hJ.2.2.2.2.1 (Int.add_le_add_left (Int.mul_le_mul_of_nonneg_left (Int.ofNat_le.mpr (pen12 d1)) (by decide)) 1)) hJ.2.2.2.2.2)
end
section
variable {prog : Program} {w : World} {A : Around} {E : Value → Shared → Prop} {s : Shared} {h₀ : Heap} {L l : Addr} {m : Str → Option Value} {news : List (Addr × Obj)} {value slice : PySem.Expr} {vs zs : List Value} {y : Int} {t : Tok} {Q : Value → Shared → Prop}
theorem slice_upto (F : Fr h₀ L s.heap m) (N : News h₀ L s.heap news) (hl : s.heap.IsList l vs.toArray) (hy : 0 ≤ y) (e : vs.take y.toNat = zs) (hz : vs.length ≤ 16384)
    (h : ∀ D h', Fr h₀ L h' m → News h₀ L h' ((D, listOf zs.toArray 0) :: news) → (∀ p ∈ news, p.1 < D) → Q (.ref D) { s with heap := h' })
    (hs : subscripted slice false (.ref l) (.ref s.heap.objs.size) = operate [.ref s.heap.objs.size, .ref l] (getItem (.ref l) (.ref s.heap.objs.size))) (ht : ∀ r, letTemporaryGo value (.ref l) r = pure ()) :
    wpAny (model prog w) A (subscriptTail value slice (.ref l) (.ref s.heap.objs.size)) Q E { s with heap := s.heap.push { cls := .type "slice", data := .fields #[.none, .int y t, .none] } } := by
  refine kmk_slice F N hl .none (.int y t) (fun D h' F' N' l1 => h D h' F' ?_ l1) hs ht (by rw [sizeLine_eq, List.size_toArray]; omega)
  have e2 : sliceBounds none (some y) none vs.toArray.size = (((0 : Nat) : Int), ((min y.toNat vs.toArray.size : Nat) : Int), 1) := by
    simp only [sliceBounds, Option.getD_none, show (1 : Int) > 0 by decide, if_true, if_neg (show ¬ (y < 0) by omega)]
    congr 1
    congr 1
    exact max_min hy
  rw [kmk_pick_nat _ e2] at N'
  have e3 : (List.take (min y.toNat vs.toArray.size - 0) (List.drop 0 vs.toArray.toList)) = zs := by
    rw [List.drop_zero, Nat.sub_zero, List.size_toArray, kmk_take_min]; exact e
  rw [e3] at N'
  exact N'
end
theorem layL51 : True := by
  k_with "my subscriptTail Name Slice ref ref" => ((k_here; (with_reducible show wpAny _ _ (subscriptTail _ (Expr.Slice none (some _) none _) (Value.ref _) (Value.ref _)) _ _ _); k_dflt (refine' slice_upto ?sFZ9 ?sNZ9 ?slZ9 ?syZ9 ?seZ9 ?szZ9 ?_ ?ssZ9 ?stZ9; (case sFZ9 => k_asm); (case sNZ9 => k_asm); (case slZ9 => is_list); (case syZ9 => decide); (case seZ9 => (simp only [Int.reduceToNat, List.take_succ_cons, List.take_zero, List.take_nil]; exact rfl)); (case szZ9 => (simp only [List.length_cons, List.length_nil]; omega)); (case ssZ9 => with_unfolding_all rfl); (case stZ9 => (intro _; with_unfolding_all rfl))); intro D'q h'q F'q N'q l1; (try k_lt l1)))
  k_with "my call ref" => ((k_here; (with_reducible show wpAny _ _ (PySem.call (Value.ref 366) _) _ _ _); k_dflt (refine' (law_pick_gen _ ?pIZ9 ?plZ9 ?p0Z9 ?p1Z9 ?pgZ9 ?pmZ9 ?pm2Z9 ?ps1Z9 ?ps2Z9 ?ps3Z9 ?prpZ9 ?pqpZ9 ?pnpZ9) _ _ _ _ _ _ _ _ _ _ _ _ _ _ _ _ _ _ _ _ ?kBZ9 ?kFZ9 ?kXZ9 ?kNZ9 ?kTZ9 ?kKZ9 ?kDZ9 ?kUZ9 ?_; (case kBZ9 => k_asm); (case kFZ9 => k_asm); (case kXZ9 => k_asm); (case kNZ9 => k_asm); (case ps1Z9 => (repeat (first | with_reducible exact Sel.hd | with_reducible apply Sel.tl))); (case ps2Z9 => (repeat (first | with_reducible exact Sel.hd | with_reducible apply Sel.tl))); (case ps3Z9 => (repeat (first | with_reducible exact Sel.hd | with_reducible apply Sel.tl))); (case pIZ9 => with_reducible assumption); (case plZ9 => omega); (case p0Z9 => omega); (case p1Z9 => omega); (case pgZ9 => omega); (case pmZ9 => (simp only [List.length_cons, List.length_nil]; omega)); (case pm2Z9 => (simp only [List.length_cons, List.length_nil]; omega)); (case prpZ9 => first | with_reducible assumption | k_ne); (case pqpZ9 => first | with_reducible assumption | k_ne); (case pnpZ9 => first | with_reducible assumption | k_all); (case kTZ9 => k_asm); (case kKZ9 => first | exact rfl | assumption); (case kDZ9 => ktr_room); (case kUZ9 => ktr_units)); intro i'q v'q sp'q gr'q tp1q9 tp2q9 nn'q h'q tk'q hv'q s0'q s1'q g0'q F'q N'q; first | (obtain ⟨way'q, tw'q, e9'q, hway'q⟩ := pick_way hv'q; subst e9'q; clear hv'q) | (rcases pick3 hv'q with e9'q | e9'q | e9'q <;> subst e9'q <;> clear hv'q) | (obtain ⟨z'q, tz'q, e9'q, hz'q⟩ := sgl5 hv'q; subst e9'q; clear hv'q) | (obtain ⟨z'q, tz'q, e9'q, hz'q⟩ := sgl7 hv'q; subst e9'q; clear hv'q) | (obtain ⟨z'q, tz'q, e9'q, hz'q⟩ := sgl10 hv'q; subst e9'q; clear hv'q)))
  exact True.intro

theorem sgn_cod {c : Int} (h : c ∈ SGN) : Cod c ∧ Sg c := by
  have : ∀ c ∈ SGN, Cod c ∧ Sg c := by unfold SGN Cod Sg; decide
  exact this c h
section
variable {prog : Program} {w : World} {A : Around} {E : Value → Shared → Prop} {s : Shared} {D : Addr} {vs : List Value} {zs : List Str} {t : Tok} {Q : Value → Shared → Prop}
theorem sg_join (hl : s.heap.IsList D vs.toArray) (hi : StrsAre vs zs) (hz : ∀ z ∈ zs, SgZ z) (h1 : 1 ≤ zs.length) (hl2 : zs.length ≤ 64) (h : ∀ z t' k, (∀ c ∈ txI z, c ∈ SGN) → (∀ c ∈ txI z, Cod c) → z.length ≤ 64 → 1 ≤ z.length → Q (.str z t') { s with toks := k }) : wpAny (model prog w) A (call (.builtin "str.join") [.str (Str.ofString "") t, .ref D]) Q E s := by
  refine s_join hl hi (sg_room hz hl2) fun z t' k hf => ?_
  have hS : ∀ c ∈ txI z, c ∈ SGN := by
    intro c hc
    rw [hf] at hc
    obtain ⟨l, hl, hc⟩ := List.mem_flatten.mp hc
    obtain ⟨y, hy, rfl⟩ := List.mem_map.mp hl
    obtain ⟨k, rfl, hk⟩ := hz y hy
    rw [txI_one, List.mem_singleton] at hc
    rw [hc]; exact hk
  have hlen : z.length = zs.length := by
    rw [← txI_len, hf]
    clear hf hi hS h1 hl2
    induction zs with
    | nil => rfl
    | cons z r ih =>
      obtain ⟨c, rfl, _⟩ := hz z (.head _)
      rw [List.map_cons, List.flatten_cons, List.length_append, ih (fun y hy => hz y (.tail _ hy)), List.length_cons, txI_one, List.length_singleton, Nat.add_comm]
  exact h z t' k hS (fun c hc => (sgn_cod (hS c hc)).1) (by omega) (by omega)
end
section
variable {prog : Program} {w : World} {A : Around} {E : Value → Shared → Prop} {s : Shared} {h₀ : Heap} {L : Addr} {m : Str → Option Value} {env : Env} {elt : Expr} {x : Str} {scope : Scope} {cl : List (Str × Addr)} {nw : List (Addr × Obj)} {Fin : Shared → List Value → List (Addr × Obj) → Prop}
/-- the comprehension over the signs of a text that gives each sign's octets -/
theorem cpU_rows {z chs : Str} {tz : Tok} (hh : A.handled = none) (hl : z.length ≤ 64) (hC : ∀ c ∈ txI z, Cod c) (hH : ∀ c ∈ txI z, has chs c = true) (F : Fr h₀ L s.heap m) (N : News h₀ L s.heap nw)
    (turn : Hold (∀ (i k : Nat) (t : Tok) ys I oI C oC D m₂ h tk (E' : Value → Shared → Prop), (txI z)[i]? = some (k : Int) → (∀ c ∈ txI ⟨#[k]⟩, Cod c ∧ has chs c = true) → (⟨#[k]⟩ : Str).length = 1 → BtsAre ys (((txI z).take i).map (en chs)) → LCg.NsObj oC m₂ → m₂ x = some (.str ⟨#[k]⟩ t) → Fr h₀ L h m → News h₀ L h ((I, oI) :: (C, oC) :: (D, LCg.lst ys) :: nw) → LCg.Off3 I C D nw → ((@Ne Nat I C) ∧ (@Ne Nat I D) ∧ (@Ne Nat C D)) →
      wpAny (model prog w) A (eval elt (compEnvC scope cl C env)) (LCg.CompEnd h₀ L m { s with heap := h, toks := tk } I oI C oC D (LCg.lst ys) AnySrc (fun y news' => ∃ _ : Unit, news' = nw ∧ BtsAre (ys ++ [y]) (((txI z).take (i + 1)).map (en chs)))) E' { s with heap := h, toks := tk }))
    (fin : Hold (∀ g ys, BtsAre ys ((txI z).map (en chs)) → ys.length = z.length → Fin { s with heap := g } ys nw)) :
    wpAny (model prog w) A (pyIter (.str z tz)) (CpU prog w A h₀ L m env elt x scope cl Fin) E s :=
  cpU_str (σ := Unit) (fun _ => nw) (fun i _ ys => BtsAre ys (((txI z).take i).map (en chs))) () hh (show z.length ≤ _ by omega) F N .nil
    (fun i k t _ ys I oI C oC D m₂ h tk E' hi hJ hC' hx F₁ N₁ off ne => turn i k t ys I oI C oC D m₂ h tk E' (str_at hi) (one_ok hi fun c hc => ⟨hC c hc, hH c hc⟩) rfl hJ hC' hx F₁ N₁ off ne)
    (fun g _ ys hJ => by
      rw [full_take] at hJ
      have hvl := hJ.length
      rw [List.length_map, txI_len] at hvl
      exact fin g ys hJ hvl)
theorem rows_step {z chs : Str} {i k : Nat} {ys : List Value} {b : Array UInt8} {t : Tok} (hJ : BtsAre ys (((txI z).take i).map (en chs))) (hi : (txI z)[i]? = some (k : Int)) (hb : KBw.bInts b = (txI ⟨#[k]⟩).flatMap (en chs)) : BtsAre (ys ++ [.bytes b t]) (((txI z).take (i + 1)).map (en chs)) := by
  rw [List.take_add_one, hi, Option.toList_some, List.map_append]
  refine hJ.snoc ?_
  rw [hb, txI_one]; simp
end
theorem layL61 : True := by
  k_with "my call builtin:str.join" => ((k_here; k_dflt (refine' sg_join ?jlZ9 ?jiZ9 ?jzZ9 ?j1Z9 ?joZ9 ?_; (case jlZ9 => is_list); (case jiZ9 => with_reducible assumption); (case jzZ9 => with_reducible assumption); (case j1Z9 => omega); (case joZ9 => omega)); intro z'q t'q k'q hS'q hC'q hL'q hM'q))
  exact True.intro

theorem both_ok {z chs : Str} (h1 : ∀ c ∈ txI z, Cod c) (h2 : ∀ c ∈ txI z, has chs c = true) : ∀ c ∈ txI z, Cod c ∧ has chs c = true := fun c hc => ⟨h1 c hc, h2 c hc⟩
theorem gr_ne (room : Int) (f : Int → Int) : ∀ r cur : List Int, gr room f r cur ≠ []
  | [], cur => List.cons_ne_nil _ _
  | c :: r, cur => by
    rw [gr]; split
    · exact List.cons_ne_nil _ _
    · exact gr_ne room f r _
theorem txt_no32 {chs : Str} (h : chs = cA ∨ chs = cL ∨ chs = cU) : (32 : Int) ∉ txI chs := by
  rcases h with rfl | rfl | rfl <;> decide +kernel
theorem way_no32 {way : Str} (h : way = wQ ∨ way = wB) : (32 : Int) ∉ txI way := by
  rcases h with rfl | rfl <;> decide +kernel
/-- the law's words: what words_of gives -/
def heardL (chs way z : Str) (width : Int) : List (List Int) := (gr (rm chs way width) (sz chs way) (txI z) []).map (wd chs way)
theorem heard_ne (chs way z : Str) (width : Int) : heardL chs way z width ≠ [] := fun h => gr_ne _ _ _ _ (List.map_eq_nil_iff.mp h)
theorem gr_sub {room : Int} {f : Int → Int} {t p : List Int} (hp : p ∈ gr room f t []) : ∀ c ∈ p, c ∈ t := fun c hc => by
  have := gr_flat room f t []
  rw [List.nil_append] at this
  rw [← this]
  exact List.mem_flatten.mpr ⟨_, hp, hc⟩
theorem heard_no32 {chs way z : Str} {width : Int} (hcs : chs = cA ∨ chs = cL ∨ chs = cU) (hw : way = wQ ∨ way = wB) (hz : ∀ c ∈ txI z, Cod c ∧ has chs c = true) : ∀ ks ∈ heardL chs way z width, (32 : Int) ∉ ks := by
  intro ks hks h32
  obtain ⟨p, hp, rfl⟩ := List.mem_map.mp hks
  have hpay : (32 : Int) ∉ pay way (p.flatMap (en chs)) := by
    intro h
    rcases hw with rfl | rfl
    · unfold pay at h; rw [if_pos rfl] at h
      have := q_iws _ (fun n hn => by
        obtain ⟨c, hc, hn⟩ := List.mem_flatMap.mp hn
        exact en_in (hz c (gr_sub hp c hc)).1 (hz c (gr_sub hp c hc)).2 n hn) 32 h
      omega
    · unfold pay at h; rw [if_neg (by decide)] at h
      have := b64_iws _ 32 h
      omega
  unfold wd fr at h32
  simp only [List.mem_append, List.mem_cons, List.not_mem_nil, or_false] at h32
  rcases h32 with (h | h) | h | h | h | h | h | h | h
  all_goals first
    | (exact absurd h (txt_no32 hcs))
    | (exact absurd h (way_no32 hw))
    | (exact absurd h hpay)
    | omega
theorem heard_len {chs way z : Str} {width : Int} : (heardL chs way z width).length = cnt (rm chs way width) ((txI z).map (sz chs way)) 0 := by
  unfold heardL
  rw [List.length_map, gr_cnt]; rfl
theorem heard_small {chs way z : Str} {width : Int} (hn : z.length ≤ 64) : (heardL chs way z width).length ≤ 65 := by
  rw [heard_len]
  have := cnt_le (rm chs way width) ((txI z).map (sz chs way)) 0
  rw [List.length_map, txI_len] at this; omega
theorem heard_eq {chs way z : Str} {width : Int} {b : Array UInt8} (h : KBw.bInts b = joinL [32] ((gr (rm chs way width) (sz chs way) (txI z) []).map (wd chs way))) : KBw.bInts b = joinL [32] (heardL chs way z width) := h
theorem heard_size {chs way z : Str} {width : Int} {b : Array UInt8} (hb : KBw.bInts b = joinL [32] (heardL chs way z width)) (hR : Roomy chs way z width) (hcs : chs = cA ∨ chs = cL ∨ chs = cU) (hw : way = wQ ∨ way = wB) (h0 : 18 ≤ width) (h1 : width ≤ 75) (hn : z.length ≤ 64) : b.size ≤ 16777216 := by
  have h75 := words_75 (z := z) hw h0 h1 (cs_len hcs).1 hR
  rw [← KBw.ints_length, hb, joinL_length]
  have hs := heard_small (chs := chs) (way := way) (width := width) hn
  have this9 := sum_len_le 75 (heardL chs way z width) fun a ha => Int.ofNat_le.mp (Int.le_trans (h75 a ha) h1)
  have : 75 * (heardL chs way z width).length ≤ 75 * 65 := Nat.mul_le_mul_left 75 hs
  exact Nat.le_trans (Nat.add_le_add (by rw [List.length_singleton, Nat.one_mul]; exact Nat.le_trans (Nat.sub_le _ _) hs) (Nat.le_trans this9 this)) (by decide : 65 + 75 * 65 ≤ 16777216)
theorem heard_gK {chs way z : Str} {width : Int} (h1 : 1 ≤ z.length) : (heardL chs way z width).length = gK (rm chs way width) ((txI z).map (sz chs way)) := by
  rw [heard_len]
  have hl : 1 ≤ ((txI z).map (sz chs way)).length := by rw [List.length_map, txI_len]; exact h1
  cases hzs : (txI z).map (sz chs way) with
  | nil => rw [hzs] at hl; simp at hl
  | cons a r => rfl
theorem roomy_fit {chs way z : Str} {width : Int} (h : Roomy chs way z width) : Fit (rm chs way width) ((txI z).map (sz chs way)) := fun x hx => ⟨by
  obtain ⟨c, _, rfl⟩ := List.mem_map.mp hx
  have := sz_pos chs way c; omega, h x hx⟩
theorem rm_nn {chs way : Str} {width : Int} (hcs : chs = cA ∨ chs = cL ∨ chs = cU) (hw : way = wQ ∨ way = wB) (h0 : 18 ≤ width) : 0 ≤ rm chs way width := by
  have hwl := (way_len hw).1
  have hcl := (cs_len hcs).1
  exact rm_ge hcl hwl h0
theorem rm_mono {chs way : Str} {width width' : Int} (h : width ≤ width') : rm chs way width ≤ rm chs way width' := by
  unfold rm; split
  · exact Int.mul_le_mul_of_nonneg_right (Int.ediv_le_ediv (by decide) (Int.sub_le_sub_right h _)) (by decide)
  · exact Int.sub_le_sub_right h _
theorem few_roomy {chs way z : Str} {width : Int} {B : Nat → Option Nat} (hcs : chs = cA ∨ chs = cL ∨ chs = cU) (hw : way = wQ ∨ way = wB) (h0 : 18 ≤ width) (h1 : 1 ≤ z.length) (hR : Roomy chs way z width) (hB : Best (rm chs way width) ((txI z).map (sz chs way)) B) {v : Value}
    (hv : (∃ e, e ≤ ((txI z).map (sz chs way)).length ∧ B e = none) ∧ v = .none ∨ (∀ e, e ≤ ((txI z).map (sz chs way)).length → B e ≠ none) ∧ ∃ b t, B 0 = some b ∧ v = .int ((b : Nat) : Int) t) : ∃ t, v = .int ((heardL chs way z width).length : Int) t := by
  have hbi := best_is hB (roomy_fit hR) (rm_nn hcs hw h0)
  rcases hv with ⟨⟨e, he, hb⟩, _⟩ | ⟨_, b, t, hb, rfl⟩
  · rw [hbi (((txI z).map (sz chs way)).length - e) e (Nat.add_sub_of_le he)] at hb; cases hb
  · have := hbi ((txI z).map (sz chs way)).length 0 (Nat.zero_add _)
    rw [hb, List.drop_zero] at this
    exact ⟨t, by rw [heard_gK h1, Option.some.inj this]⟩
theorem few_tight {chs way z : Str} {width : Int} {B : Nat → Option Nat} (hx : ∃ x ∈ (txI z).map (sz chs way), rm chs way width < x) (hB : Best (rm chs way width) ((txI z).map (sz chs way)) B) {v : Value}
    (hv : (∃ e, e ≤ ((txI z).map (sz chs way)).length ∧ B e = none) ∧ v = .none ∨ (∀ e, e ≤ ((txI z).map (sz chs way)).length → B e ≠ none) ∧ ∃ b t, B 0 = some b ∧ v = .int ((b : Nat) : Int) t) : v = .none := by
  obtain ⟨x, hx, hlt⟩ := hx
  obtain ⟨i, hi, hxi⟩ := List.getElem_of_mem hx
  have hn := best_none hB (i := i) (z := x) (fun y hy => by
    obtain ⟨c, _, rfl⟩ := List.mem_map.mp hy
    have := sz_pos chs way c; omega) (by rw [List.getElem?_eq_getElem hi, hxi]) hlt
  rcases hv with ⟨_, rfl⟩ | ⟨ha, _⟩
  · rfl
  · exact absurd hn (ha i (Nat.le_of_lt hi))
theorem not_roomy {chs way z : Str} {width : Int} (h : ¬ Roomy chs way z width) : ∃ x ∈ (txI z).map (sz chs way), rm chs way width < x := by
  refine Classical.byContradiction fun hc => h fun x hx => ?_
  refine Int.not_lt.mp fun hlt => hc ⟨x, hx, hlt⟩
theorem few_cases {chs way z : Str} {width : Int} {B : Nat → Option Nat} (hcs : chs = cA ∨ chs = cL ∨ chs = cU) (hw : way = wQ ∨ way = wB) (h0 : 18 ≤ width) (h1 : 1 ≤ z.length) (hB : Best (rm chs way width) ((txI z).map (sz chs way)) B) {v : Value}
    (hv : (∃ e, e ≤ ((txI z).map (sz chs way)).length ∧ B e = none) ∧ v = .none ∨ (∀ e, e ≤ ((txI z).map (sz chs way)).length → B e ≠ none) ∧ ∃ b t, B 0 = some b ∧ v = .int ((b : Nat) : Int) t) :
    (Roomy chs way z width ∧ ∃ t, v = .int ((heardL chs way z width).length : Int) t) ∨ ((∃ x ∈ (txI z).map (sz chs way), rm chs way width < x) ∧ v = .none) := by
  by_cases hR : Roomy chs way z width
  · exact .inl ⟨hR, few_roomy hcs hw h0 h1 hR hB hv⟩
  · exact .inr ⟨not_roomy hR, few_tight (not_roomy hR) hB hv⟩
theorem roomy_no {chs way z : Str} {width : Int} (h : Roomy chs way z width) : ¬ ∃ x ∈ (txI z).map (sz chs way), rm chs way width < x := by
  rintro ⟨x, hx, hlt⟩
  exact absurd hlt (Int.not_lt.mpr (h x hx))
theorem roomy_up {chs way z : Str} {width width' : Int} (h : Roomy chs way z width) (hw : width ≤ width') : Roomy chs way z width' := fun x hx => Int.le_trans (h x hx) (rm_mono hw)
theorem wider_le {chs way z : Str} {width width' : Int} (hcs : chs = cA ∨ chs = cL ∨ chs = cU) (hw : way = wQ ∨ way = wB) (h0 : 18 ≤ width) (h1 : 1 ≤ z.length) (hR : Roomy chs way z width) (hl : width ≤ width') : (heardL chs way z width').length ≤ (heardL chs way z width).length := by
  rw [heard_gK h1, heard_gK h1]
  exact gK_wide (rm_mono hl) (rm_nn hcs hw h0) _ (roomy_fit hR)
theorem len_heard {prog : Program} {w : World} {A : Around} {E : Value → Shared → Prop} {s : Shared} {l : Addr} {vs : List Value} {kss : List (List Int)} {Q : Value → Shared → Prop} (hl : s.heap.IsList l vs.toArray) (hB : BtsAre vs kss) (hz : kss.length ≤ 65) (h : Q (.int (kss.length : Nat) (s.toks + 1)) { s with toks := s.toks + 1 + 1 }) : wpAny (model prog w) A (call (.builtin "len") [.ref l]) Q E s :=
  kun_lenL hl (by rw [List.size_toArray, hB.length]) (by omega) h
theorem ktsD_of {h₀ g : Heap} {L : Addr} {m : Str → Option Value} (F : Fr h₀ L g m) : KtsDicts [L] g := by
  intro b hb
  obtain ⟨o, es, ep, ho, hd, _⟩ := F.ns
  rw [List.mem_singleton.mp hb]
  exact ⟨o, es, ep, ho, hd⟩
/-- a text by its codes -/
def strOf (p : List Int) : Str := ⟨(p.map Int.toNat).toArray⟩
theorem strOf_txI {p : List Int} (h : ∀ c ∈ p, 0 ≤ c) : txI (strOf p) = p := by
  unfold txI strOf
  rw [List.map_map]
  conv => rhs; rw [← List.map_id p]
  apply List.map_congr_left
  intro c hc
  have := h c hc
  show Int.ofNat c.toNat = c
  exact Int.toNat_of_nonneg this
theorem layL71 : True := by
  k_with "my call ref" => ((k_here; (with_reducible show wpAny _ _ (PySem.call (Value.ref 210) _) _ _ _); k_dflt (refine' called (best_charset_at _ _ _ _ (by omega) (by with_reducible assumption)) ?kBZ9 ?kFZ9 ?kXZ9 ?kNZ9 ?kTZ9 ?kKZ9 ?kDZ9 ?kUZ9 ?_; (case kBZ9 | kFZ9 | kXZ9 | kNZ9 | kTZ9 => k_asm); (case kKZ9 => first | exact rfl | assumption); (case kDZ9 => ktr_room); (case kUZ9 => ktr_units)); intro chs'q t'q h'q tk'q hcs'q hhas'q F'q N'q; (have hok'q := both_ok (by with_reducible assumption) hhas'q)))
  k_with "my call builtin:len" => ((k_here; (with_reducible show wpAny _ _ (call (Value.builtin "len") [Value.ref _]) _ _ _); k_dflt (refine' len_heard (kss := heardL _ _ _ _) ?k1Z9 ?k2Z9 ?k3Z9 ?_; (case k1Z9 => is_list); (case k2Z9 => with_reducible assumption); (case k3Z9 => exact heard_small (by omega)))))
  k_with "my getMethod bytes" => ((k_here; (with_reducible refine method_bytes_split ?_)))
  k_with "my call builtin:bytes.split" => ((k_here; k_dflt (refine' bytes_split (kss := heardL _ _ _ _) ?pFZ9 ?pNZ9 ?pbZ9 (heard_ne _ _ _ _) (heard_no32 ?pcZ9 ?pwZ9 ?pzZ9) ?psZ9 ?plZ9 ?_; (case pFZ9 => k_asm); (case pNZ9 => k_asm); (case pbZ9 => with_reducible assumption); (case pcZ9 => with_reducible assumption); (case pwZ9 => with_reducible assumption); (case pzZ9 => with_reducible assumption); (case psZ9 => exact heard_size (by with_reducible assumption) (by with_reducible assumption) (by with_reducible assumption) (by with_reducible assumption) (by omega) (by omega) (by omega)); (case plZ9 => exact Nat.le_trans (heard_small (by omega)) (by decide))); intro l'q vs'q h'q tk'q hB'q F'q N'q l1'q; (try k_lt l1'q)))
  k_with "my call ref" => ((k_here; (with_reducible show wpAny _ _ (PySem.call (Value.ref 290) _) _ _ _); k_dflt (refine' (words_of_at _ _ _ _ _ _ _ _ _ _ ?wcsZ9 ?wwZ9 ?wnZ9 ?wzZ9 ?w0Z9 ?w1Z9) _ _ _ _ _ _ _ _ _ _ _ _ _ _ _ _ _ _ _ _ ?kBZ9 ?kFZ9 ?kXZ9 ?kNZ9 ?kTZ9 ?kKZ9 ?kDZ9 ?kUZ9 ?_ ?gexcZ9; (case kBZ9 => k_asm); (case kFZ9 => k_asm); (case kXZ9 => k_asm); (case kNZ9 => k_asm); (case wcsZ9 => with_reducible assumption); (case wwZ9 => with_reducible assumption); (case wzZ9 => with_reducible assumption); (case wnZ9 => omega); (case w0Z9 => omega); (case w1Z9 => omega); (case kTZ9 => k_asm); (case kKZ9 => first | exact rfl | assumption); (case kDZ9 => ktr_room); (case kUZ9 => ktr_units); (case gexcZ9 => (intro hx; exact absurd hx (roomy_no (by with_reducible assumption))))); intro hroomy'q b'q t'q h'q tk'q kbEq9 F'q N'q; (replace kbEq9 := heard_eq kbEq9)))
  k_with "my call ref" => ((k_here; (with_reducible show wpAny _ _ (PySem.call (Value.ref 290) _) _ _ _); k_dflt (refine' (words_of_at _ _ _ _ _ _ _ _ _ _ ?wcsZ9 ?wwZ9 ?wnZ9 ?wzZ9 ?w0Z9 ?w1Z9) _ _ _ _ _ _ _ _ _ _ _ _ _ _ _ _ _ _ _ _ ?kBZ9 ?kFZ9 ?kXZ9 ?kNZ9 ?kTZ9 ?kKZ9 ?kDZ9 ?kUZ9 ?gretZ9 ?_; (case kBZ9 => k_asm); (case kFZ9 => k_asm); (case kXZ9 => k_asm); (case kNZ9 => k_asm); (case wcsZ9 => with_reducible assumption); (case wwZ9 => with_reducible assumption); (case wzZ9 => with_reducible assumption); (case wnZ9 => omega); (case w0Z9 => omega); (case w1Z9 => omega); (case kTZ9 => k_asm); (case kKZ9 => first | exact rfl | assumption); (case kDZ9 => ktr_room); (case kUZ9 => ktr_units); (case gretZ9 => (intro hroomyq9; exact absurd (by with_reducible assumption) (roomy_no hroomyq9)))); intro hx'q e'q te'q ve'q g2'q h'q tk'q Fg'q RS'q RK'q U'q))
  exact True.intro

theorem turn_back {h₀ g g' h' : Heap} {L L' : Addr} {m m' : Str → Option Value} (FG : Fr h₀ L g m) (T : KtsTurn [L] g g') (F' : Fr g' L' h' m') : Fr h₀ L h' m := by
  obtain ⟨oL, es, ep, hL, hLd, hLk, hLf⟩ := FG.ns
  obtain ⟨sl, hs⟩ := T.up hL
  refine ⟨⟨_, es, ep, F'.keep _ _ hs, hLd, hLk, hLf⟩, fun b o e => F'.keep b o (T.other b o (FG.keep b o e) fun hb => ?_), FG.above⟩
  rw [List.mem_singleton.mp hb, kts_self FG] at e; cases e
theorem turn_news {h₀ g g' h' : Heap} {L L' : Addr} {m : Str → Option Value} {nw : List (Addr × Obj)} (FG : Fr h₀ L g m) (T : KtsTurn [L] g g') (N' : News g' L' h' nw) : News h₀ L h' nw := by
  intro p hp
  obtain ⟨oL, es, ep, hL, _⟩ := FG.ns
  obtain ⟨sl, hs⟩ := T.up hL
  refine ⟨(N' p hp).1, fun q => ?_, ?_⟩
  · have := (N' p hp).2.2; rw [q, hs] at this; cases this
  · cases q : h₀.get? p.1 with
    | none => rfl
    | some o =>
      obtain ⟨sl', hs'⟩ := T.up (FG.keep _ _ q)
      have := (N' p hp).2.2; rw [hs'] at this; cases this
/-- how a def that may have caught something comes back -/
def LeaveT (h₀ : Heap) (L : Addr) (m : Str → Option Value) (g : Heap) (R : Result → Shared → Prop) (v : Value) (s' : Shared) : Prop :=
  ∃ g' L' m' nw, KtsTurn [L] g g' ∧ Fr g' L' s'.heap m' ∧ News g' L' s'.heap nw ∧ (Fr h₀ L s'.heap m → News h₀ L s'.heap nw → R (.ok (.ret v)) s')
section
variable {prog : Program} {w : World} {A₀ A : Around} {s : Shared} {base h₀ : Heap} {L : Addr} {m : Str → Option Value} {env : Env} {news : List (Addr × Obj)} {K : Frag} {p : Program} {loose : List Str} {mean : ExcName → Option Value} {mg mb : Str → Option Value}
  {R : Result → Shared → Prop} {name qual : Str} {params : Arguments} {body : List Stmt} {scope : Scope} {dV kV doc pm cdv ct oc : Value} {an od : Option Addr} {osl : Array (Option Value)} {f : Addr} {args : Args} {binds : List (Str × Value)}
theorem call_turn (B : Below A₀ base [] h₀) (F : Fr h₀ L s.heap m) (X₀ : K.In h₀) (N : News h₀ L s.heap news) (T : Top p loose mean mg mb h₀) (hA : A.frames = some [env]) (hf : env.frame = some L) (hke : env.scope.kind = .function)
    (ho : K.lookup f = some ⟨oc, od, .func (fnOf name qual params body scope dV kV doc pm an cdv ct), osl⟩) (hcd : codeIn K cdv qual = true) (hroom : A.depth < recursionLimit)
    (hbind : BindsTo s (fnOf name qual params body scope dV kV doc pm an cdv ct) args binds) (hloc : ∀ y ∈ binds, scope.names.lookup y.1 = some .local)
    (h : ∀ g L' h₁, Fr h₀ L g m → Fr g L' h₁ (fun y => binds.reverse.lookup y) → News g L' h₁ news → Below A base [env] g → K.In g → Top p loose mean mg mb g →
      wpAny (model prog w) (A.deeper (envOf qual scope L' f cdv)) (execs body (envOf qual scope L' f cdv))
        (fun fl s' => LeaveT h₀ L m g R (match fl with | .ret v => v | _ => .none) s')
        (fun e s' => wpAny (model prog w) (A.deeper (envOf qual scope L' f cdv)) (leaving (envOf qual scope L' f cdv) e) (fun _ s'' => R (.error e) s'') (fun e' s'' => R (.error e') s'') s')
        { s with heap := h₁, toks := s.toks + binds.length })
    (hco : scope.isCoroutine = false) (hgen : scope.isGenerator = false) (hk : scope.kind = .function) (hcell : ∀ x ∈ scope.names, x.2 ≠ .cell) : codeAny (model prog w) A (.call (.ref f) args) R s := by
  obtain ⟨FG, BG, st, _⟩ := groundX (R := R) B F N hA hf hke
  have X := X₀.keeps F.keep
  refine codeAny_call_def (fd := fnOf name qual params body scope dV kV doc pm an cdv ct) (body := body) (binds := binds) hroom (X _ _ ho) rfl (T.nolimit.keeps F.keep) (codeRec_of X hcd) rfl hbind hcell hloc (fun h₁ hns hk₁ => ?_) hco hgen hk
  refine wpAny_mono (h _ s.heap.objs.size h₁ FG ⟨hns, fun b o e => hk₁ b o (of_hideAll _ e), Nat.le_of_eq (hideAll_size _ _)⟩
    (fun p hp => ⟨hk₁ _ _ (N p hp).1, Nat.ne_of_lt (Heap.lt_size (N p hp).1), hideAll_none _ (List.mem_map_of_mem hp)⟩) BG (X₀.keeps st) (T.keeps st)) (fun fl s' hl => ?_) fun _ _ y => y
  obtain ⟨g', L', m', nw, T', F', N', k⟩ := hl
  exact k (turn_back FG T' F') (turn_news FG T' N')
end
/-- a contract for a def that catches, called by the outermost frame -/
def CGL (w : World) (k : Nat) (f : Addr) (vs : List Value) (news : List (Addr × Obj)) (R : Cont) : Prop :=
  ∀ (mean : ExcName → Option Value) (mg mb : Str → Option Value) (dp un : Nat) (gd : Option (List Code)) (cn : Str) (cs : Scope) (a : Addr) (ccd : Value) (cl : List (Str × Addr)) (A₀ : Around) (h₀ : Heap) (L : Addr) (m : Str → Option Value) (s : Shared) (Q E : Value → Shared → Prop),
    Below A₀ h₀ [] h₀ → Fr h₀ L s.heap m → (hd.heap_39 w.params).In h₀ → News h₀ L s.heap news → Top hd.view_39 Loo mean mg mb h₀ → cs.kind = .function →
    dp + 2 * k < recursionLimit → un + 32 * k < cLine → R h₀ L m s Q E →
      wpAny (model Prg w) (ktrTop dp un gd cn cs L a ccd cl []) (call (.ref f) vs) Q E s
theorem law_tight_at (w : World) (news : List (Addr × Obj)) (z chs way : Str) (width : Int) (t t' t2 t3 : Tok) (hcs : chs = cA ∨ chs = cL ∨ chs = cU) (hw : way = wQ ∨ way = wB) (hn : z.length ≤ 64) (hz : ∀ c ∈ txI z, Cod c ∧ has chs c = true) (hw0 : 18 ≤ width) (hw1 : width ≤ 75) (hx : ∃ x ∈ (txI z).map (sz chs way), rm chs way width < x) :
    CGL w 9 392 [.str z t, .str chs t', .str way t2, .int width t3] news (RN news) := by
  w_top off
  intro mean mg mb dp un gd cn cs a ccd cl A₀ h₀ L m s Q E B F X N T hk hd hu hret
  refine wpAny_call ?_
  k_dflt (refine' call_turn ?k1 ?k2 ?k3 ?k4 ?k5 ?kA ?kF ?kK ?k6 ?k7 ?k8 ?k9 ?kB ?_ ?c2 ?c3 ?c4 ?c5; (case kA => exact rfl); (case kF => exact rfl); (case kK => assumption); (case k1 => k_asm); (case k2 => k_asm); (case k3 => k_asm); (case k4 => k_asm); (case k5 => k_asm); (case k6 => k_is); (case k7 => k_is); (case k8 => ktr_room); (case k9 => exact BindsTo.of_eq rfl); (case c5 => decide); (case kB => exact locs rfl); (case c2 => exact rfl); (case c3 => exact rfl); (case c4 => exact rfl); k_whole; intro g' L' h' FG' F' N' B' X' T'; (try dsimp only); (try k_lift B'); (try k_fold))
  (try k_fold)
  k_steps
  show wpAny _ (Around.deeper _ _) _ _ _ _
  k_here
  refine' caught_SO0 (g₀ := g') ?cR ?cF ?cK ?cU ?cXB ?cTB ?cD ?cT0 ?cex ?cq ?_
  (case cR => assumption)
  (case cF => assumption)
  (case cK => assumption)
  (case cU => assumption)
  (case cXB => assumption)
  (case cTB => assumption)
  (case cD => exact ktsD_of FG')
  (case cT0 => exact KtsTurn.refl)
  (case cex => k_is)
  (case cq => kts_isx)
  k_whole
  intro h'' g'' n₂ T'' F'' N₂ G'' N'' K'' X'' P'' D''
  (try k_lift K'')
  (try k_fold)
  k_steps
  show LeaveT h₀ L m g' _ Value.none _
  exact ⟨g'', L', _, news, T'', F'', N'', fun F9 N9 => hret _ _ F9 N9⟩
theorem law_heard_at (w : World) (news : List (Addr × Obj)) (z chs way : Str) (width : Int) (t t' t2 t3 : Tok) (hcs : chs = cA ∨ chs = cL ∨ chs = cU) (hw : way = wQ ∨ way = wB) (hn : z.length ≤ 64) (hz : ∀ c ∈ txI z, Cod c ∧ has chs c = true) (hw0 : 18 ≤ width) (hw1 : width ≤ 75) (hR : Roomy chs way z width) :
    CG w 9 392 [.str z t, .str chs t', .str way t2, .int width t3] news (fun h₀ L m s Q _ => ∀ (l : Addr) (vs : List Value) (h' : Heap) (tk' : Nat), BtsAre vs (heardL chs way z width) → Fr h₀ L h' m → News h₀ L h' ((l, listOf vs.toArray 0) :: news) → (∀ p ∈ news, p.1 < l) → Q (.ref l) { s with heap := h', toks := tk' }) := by
  w_top off
  intro mean mg mb dp un gd cn cs a ccd cl outer A₀ base h₀ L m s Q E B F X N T hk hd hu hret
  refine wpAny_call ?_
  k_dflt cell_enter
  (try (refine let_AE ?_; intro A9q e9q)); (try ((with_reducible rename Fr _ _ _ _ => F9q); refine let_m F9q ?_; clear F9q; intro m9q F'))
  (try k_fold)
  k_steps
  exact hret _ _ _ _ (by with_reducible assumption) (by k_asm) (by k_asm) (by assumption)
theorem layH11 : True := by
  k_with "my call ref" => ((k_here; (with_reducible show wpAny _ _ (PySem.call (Value.ref 392) _) _ _ _); k_dflt (refine' (law_heard_at _ _ _ _ _ _ _ _ _ _ ?wcsZ9 ?wwZ9 ?wnZ9 ?wzZ9 ?w0Z9 ?w1Z9 ?wRZ9) _ _ _ _ _ _ _ _ _ _ _ _ _ _ _ _ _ _ _ _ ?kBZ9 ?kFZ9 ?kXZ9 ?kNZ9 ?kTZ9 ?kKZ9 ?kDZ9 ?kUZ9 ?_; (case kBZ9 => k_asm); (case kFZ9 => k_asm); (case kXZ9 => k_asm); (case kNZ9 => k_asm); (case wcsZ9 => with_reducible assumption); (case wwZ9 => with_reducible assumption); (case wzZ9 => with_reducible assumption); (case wnZ9 => omega); (case w0Z9 => omega); (case w1Z9 => omega); (case wRZ9 => with_reducible assumption); (case kTZ9 => k_asm); (case kKZ9 => first | exact rfl | assumption); (case kDZ9 => ktr_room); (case kUZ9 => ktr_units)); intro l'q vs'q h'q tk'q hB'q F'q N'q l1'q; (try k_lt l1'q)))
  k_with "my call ref" => ((k_here; (with_reducible show wpAny _ _ (PySem.call (Value.ref 392) _) _ _ _); k_dflt (refine' (law_tight_at _ _ _ _ _ _ _ _ _ _ ?wcsZ9 ?wwZ9 ?wnZ9 ?wzZ9 ?w0Z9 ?w1Z9 ?wXZ9) _ _ _ _ _ _ _ _ _ _ _ _ _ _ _ _ _ _ ?kBZ9 ?kFZ9 ?kXZ9 ?kNZ9 ?kTZ9 ?kKZ9 ?kDZ9 ?kUZ9 ?_; (case kBZ9 => k_asm); (case kFZ9 => k_asm); (case kXZ9 => k_asm); (case kNZ9 => k_asm); (case wcsZ9 => with_reducible assumption); (case wwZ9 => with_reducible assumption); (case wzZ9 => with_reducible assumption); (case wnZ9 => omega); (case w0Z9 => omega); (case w1Z9 => omega); (case wXZ9 => with_reducible assumption); (case kTZ9 => k_asm); (case kKZ9 => first | exact rfl | assumption); (case kDZ9 => ktr_room); (case kUZ9 => ktr_units)); intro h'q tk'q F'q N'q))
  exact True.intro

theorem mem_sum_le : ∀ {l : List Nat} {a : Nat}, a ∈ l → a ≤ l.sum
  | b :: l, a, h => by
    rw [List.sum_cons]
    rcases List.mem_cons.mp h with rfl | h
    · omega
    · have := mem_sum_le h; omega
section
variable {prog : Program} {w : World} {A : Around} {E : Value → Shared → Prop} {s : Shared} {h₀ : Heap} {L : Addr} {m : Str → Option Value} {env : Env} {elt ct : Expr} {x : Str} {scope : Scope} {cl : List (Str × Addr)} {nw : List (Addr × Obj)} {Fin : Shared → List Value → List (Addr × Obj) → Prop}
theorem cpT_none {l : Addr} {vs : List Value} {nn : Nat} {kss : List (List Int)} {width : Int} (hh : A.handled = none) (hB : BtsAre vs kss) (h75 : ∀ ks ∈ kss, (ks.length : Int) ≤ width) (hw : width ≤ 75) (hz : kss.length ≤ 65) (F : Fr h₀ L s.heap m) (N : News h₀ L s.heap nw) (hm : (l, listOf vs.toArray nn) ∈ nw)
    (turn : Hold (∀ (b : Array UInt8) (t : Tok) (ks : List Int) ys I oI C oC D m₂ h tk (E' : Value → Shared → Prop), KBw.bInts b = ks → (ks.length : Int) ≤ width → ks.length ≤ 75 → IntsAre ys [] → LCg.NsObj oC m₂ → m₂ x = some (.bytes b t) → Fr h₀ L h m → News h₀ L h ((I, oI) :: (C, oC) :: (D, LCg.lst ys) :: nw) → LCg.Off3 I C D nw → ((@Ne Nat I C) ∧ (@Ne Nat I D) ∧ (@Ne Nat C D)) →
      wpAny (model prog w) A (isTrue ct (compEnvC scope cl C env) (eval ct (compEnvC scope cl C env))) (fun ok s' => if ok = true then
        wpAny (model prog w) A (eval elt (compEnvC scope cl C env)) (LCg.CompEnd h₀ L m { s with heap := h, toks := tk } I oI C oC D (LCg.lst ys) (LCg.SrcAt h₀ l vs.toArray) (fun y news' => ∃ _ : Unit, news' = nw ∧ IntsAre (ys ++ [y]) [])) E' s'
        else LCg.CompEnd h₀ L m { s with heap := h, toks := tk } I oI C oC D (LCg.lst ys) (LCg.SrcAt h₀ l vs.toArray) (fun _ news' => ∃ _ : Unit, news' = nw ∧ IntsAre ys []) Value.none s') E' { s with heap := h, toks := tk }))
    (fin : Hold (∀ g ys, IntsAre ys [] → Fin { s with heap := g } ys nw)) :
    wpAny (model prog w) A (pyIter (.ref l)) (CpT prog w A h₀ L m env ct elt x scope cl Fin) E s :=
  cpT_list (σ := Unit) (its := vs.toArray) (fun _ => nw) (fun _ _ ys => IntsAre ys []) () hh (by rw [List.size_toArray, hB.length]; omega) (Or.inr ⟨_, hm, rfl, _, rfl⟩) F N .nil
    (fun i v _ ys I oI C oC D m₂ h tk E' hi hJ hC hx F₁ N₁ off ne => by
      obtain ⟨b, t, ks, hk, rfl, hb⟩ := hB.get i v (by simpa using hi)
      have h1 := h75 ks (List.mem_of_getElem? hk)
      exact turn b t ks ys I oI C oC D m₂ h tk E' hb h1 (by omega) hJ hC hx F₁ N₁ off ne)
    (fun g _ ys hJ => fin g ys hJ)
theorem cpU_dec {l : Addr} {vs : List Value} {nn : Nat} {z chs way : Str} {width : Int} (hh : A.handled = none) (hB : BtsAre vs (heardL chs way z width)) (hS : ∀ c ∈ txI z, c ∈ SGN) (hC : ∀ c ∈ txI z, has chs c = true) (hR : Roomy chs way z width) (hcs : chs = cA ∨ chs = cL ∨ chs = cU) (hw : way = wQ ∨ way = wB) (hw0 : 18 ≤ width) (hw1 : width ≤ 75) (hn : z.length ≤ 64) (F : Fr h₀ L s.heap m) (N : News h₀ L s.heap nw) (hm : (l, listOf vs.toArray nn) ∈ nw)
    (turn : Hold (∀ (i : Nat) (b : Array UInt8) (t : Tok) (p : List Int) ys I oI C oC D m₂ h tk (E' : Value → Shared → Prop), (gr (rm chs way width) (sz chs way) (txI z) [])[i]? = some p → KBw.bInts b = fr chs way (pay way (ens chs (strOf p))) → (fr chs way (pay way (ens chs (strOf p)))).length ≤ 75 → (strOf p).length ≤ 64 → (∀ c ∈ txI (strOf p), Sg c ∧ has chs c = true) → StrsAre ys (((gr (rm chs way width) (sz chs way) (txI z) []).take i).map strOf) →
      LCg.NsObj oC m₂ → m₂ x = some (.bytes b t) → Fr h₀ L h m → News h₀ L h ((I, oI) :: (C, oC) :: (D, LCg.lst ys) :: nw) → LCg.Off3 I C D nw → ((@Ne Nat I C) ∧ (@Ne Nat I D) ∧ (@Ne Nat C D)) →
        wpAny (model prog w) A (eval elt (compEnvC scope cl C env)) (LCg.CompEnd h₀ L m { s with heap := h, toks := tk } I oI C oC D (LCg.lst ys) (LCg.SrcAt h₀ l vs.toArray) (fun y news' => ∃ _ : Unit, news' = nw ∧ StrsAre (ys ++ [y]) (((gr (rm chs way width) (sz chs way) (txI z) []).take (i + 1)).map strOf))) E' { s with heap := h, toks := tk }))
    (fin : Hold (∀ g ys, StrsAre ys ((gr (rm chs way width) (sz chs way) (txI z) []).map strOf) → Fin { s with heap := g } ys nw)) :
    wpAny (model prog w) A (pyIter (.ref l)) (CpU prog w A h₀ L m env elt x scope cl Fin) E s :=
  cpU_list (σ := Unit) (its := vs.toArray) (fun _ => nw) (fun i _ ys => StrsAre ys (((gr (rm chs way width) (sz chs way) (txI z) []).take i).map strOf)) () hh (by rw [List.size_toArray, hB.length]; have := heard_small (chs := chs) (way := way) (width := width) hn; omega) (Or.inr ⟨_, hm, rfl, _, rfl⟩) F N .nil
    (fun i v _ ys I oI C oC D m₂ h tk E' hi hJ hC' hx F₁ N₁ off ne => by
      obtain ⟨b, t, ks, hk, rfl, hb⟩ := hB.get i v (by simpa using hi)
      unfold heardL at hk
      rw [List.getElem?_map] at hk
      obtain ⟨p, hp, rfl⟩ := Option.map_eq_some_iff.mp hk
      have hmem := List.mem_of_getElem? hp
      have h0 : ∀ c ∈ p, 0 ≤ c := fun c hc => by
        have := hS c (gr_sub hmem c hc)
        have h : ∀ c ∈ SGN, 0 ≤ c := by unfold SGN; decide
        exact h c this
      have ht := strOf_txI h0
      have he : ens chs (strOf p) = p.flatMap (en chs) := by unfold ens; rw [ht]
      have h75 := words_75 (z := z) hw hw0 hw1 (cs_len hcs).1 hR (wd chs way p) (List.mem_map_of_mem hmem)
      have hl : p.length ≤ z.length := by
        have hf := congrArg List.length (gr_flat (rm chs way width) (sz chs way) (txI z) [])
        rw [List.nil_append, txI_len, List.length_flatten] at hf
        rw [← hf]
        exact mem_sum_le (List.mem_map_of_mem hmem)
      have h75b : (wd chs way p).length ≤ 75 := by omega
      exact turn i b t p ys I oI C oC D m₂ h tk E' hp (by rw [he]; exact hb) (by rw [he]; exact h75b) (by rw [← txI_len, ht]; omega) (fun c hc => by
        rw [ht] at hc
        exact ⟨(sgn_cod (hS c (gr_sub hmem c hc))).2, hC c (gr_sub hmem c hc)⟩) hJ hC' hx F₁ N₁ off ne)
    (fun g _ ys hJ => by
      rw [List.take_of_length_le (by rw [List.size_toArray, hB.length]; unfold heardL; rw [List.length_map]; exact Nat.le_refl _)] at hJ
      exact fin g ys hJ)
theorem dec_step {G : List (List Int)} {i : Nat} {p : List Int} {ys : List Value} {t : Tok} (hp : G[i]? = some p) (hJ : StrsAre ys ((G.take i).map strOf)) : StrsAre (ys ++ [.str (strOf p) t]) ((G.take (i + 1)).map strOf) := by
  rw [List.take_add_one, hp, Option.toList_some, List.map_append]
  exact strs_snoc hJ _ _
theorem dec_join {D : Addr} {vs : List Value} {z chs way : Str} {width : Int} {t : Tok} {Q : Value → Shared → Prop} (hl : s.heap.IsList D vs.toArray) (hi : StrsAre vs ((gr (rm chs way width) (sz chs way) (txI z) []).map strOf)) (hS : ∀ c ∈ txI z, c ∈ SGN) (hn : z.length ≤ 64)
    (h : ∀ t' k, Q (.str z t') { s with toks := k }) : wpAny (model prog w) A (call (.builtin "str.join") [.str (Str.ofString "") t, .ref D]) Q E s := by
  have h0 : ∀ p ∈ gr (rm chs way width) (sz chs way) (txI z) [], ∀ c ∈ p, 0 ≤ c := fun p hp c hc => by
    have := hS c (gr_sub hp c hc)
    have h : ∀ c ∈ SGN, 0 ≤ c := by unfold SGN; decide
    exact h c this
  have e1 : ((gr (rm chs way width) (sz chs way) (txI z) []).map strOf).map txI = gr (rm chs way width) (sz chs way) (txI z) [] := by
    rw [List.map_map]
    conv => rhs; rw [← List.map_id (gr (rm chs way width) (sz chs way) (txI z) [])]
    exact List.map_congr_left fun p hp => strOf_txI (h0 p hp)
  have e2 : (((gr (rm chs way width) (sz chs way) (txI z) []).map strOf).map (·.length)) = (gr (rm chs way width) (sz chs way) (txI z) []).map List.length := by
    rw [List.map_map]
    exact List.map_congr_left fun p hp => by show (strOf p).length = p.length; rw [← txI_len, strOf_txI (h0 p hp)]
  have hf := gr_flat (rm chs way width) (sz chs way) (txI z) []
  rw [List.nil_append] at hf
  have hs := heard_small (chs := chs) (way := way) (width := width) hn
  unfold heardL at hs
  rw [List.length_map] at hs
  refine s_join hl hi ?_ fun z' t' k hz => ?_
  · have hfl := congrArg List.length hf
    rw [List.length_flatten, txI_len] at hfl
    rw [e2, hfl, List.length_map]; omega
  · rw [e1, hf] at hz
    rw [txI_inj hz]; exact h t' k
theorem ne_str_same {z : Str} {t u : Tok} {Q : Value → Shared → Prop} (h : Q (.bool false) s) : wpAny (model prog w) A (compareOp .NotEq (.str z t) (.str z u)) Q E s :=
  ne_str (by rw [show (z != z) = false by simp]; exact h)
theorem gt_no {a b : Int} {t u : Tok} {Q : Value → Shared → Prop} (hle : a ≤ b) (h : Q (.bool false) s) : wpAny (model prog w) A (compareOp .Gt (.int a t) (.int b u)) Q E s :=
  gt_int (by rw [decide_eq_false (Int.not_lt.mpr hle)]; exact h)
theorem heard_wide {chs way z : Str} {width : Int} (hcs : chs = cA ∨ chs = cL ∨ chs = cU) (hw : way = wQ ∨ way = wB) (hw0 : 18 ≤ width) (hw1 : width ≤ 75) (hR : Roomy chs way z width) : ∀ ks ∈ heardL chs way z width, (ks.length : Int) ≤ width := words_75 hw hw0 hw1 (cs_len hcs).1 hR
end
theorem layL81 : True := by
  k_with "my call builtin:str.join" => ((k_here; k_dflt (refine' dec_join ?jlZ9 ?jiZ9 ?jSZ9 ?jnZ9 ?_; (case jlZ9 => is_list); (case jiZ9 => with_reducible assumption); (case jSZ9 => with_reducible assumption); (case jnZ9 => omega)); intro t'q k'q))
  k_with "my compareOp Gt int int" => ((k_here; (refine gt_no (by with_reducible assumption) ?_)))
  k_with "my compareOp NotEq str str" => ((k_here; (with_reducible refine ne_str_same ?_)))
  k_with "my call ref" => ((k_here; (with_reducible show wpAny _ _ (PySem.call (Value.ref 347) _) _ _ _); k_dflt (refine' called (decoded_words_at _ _ _ _ _ _ _ (by with_reducible assumption) (by with_reducible assumption) (by with_reducible assumption) (by with_reducible assumption) (by with_reducible assumption) (by with_reducible assumption)) ?kBZ9 ?kFZ9 ?kXZ9 ?kNZ9 ?kTZ9 ?kKZ9 ?kDZ9 ?kUZ9 ?_; (case kBZ9 | kFZ9 | kXZ9 | kNZ9 | kTZ9 => k_asm); (case kKZ9 => first | exact rfl | assumption); (case kDZ9 => ktr_room); (case kUZ9 => ktr_units)); intro t'q h'q tk'q F'q N'q))
  k_with "my CompEnd" => (((with_reducible rename Roomy _ _ _ _ => hR9); k_dflt (refine' LCg.CompEnd.intro ?lpFZ9 ?lpNZ9 _ ?lpaZ9 ?lpoZ9 ?lpsZ9 ⟨(), rfl, ?_⟩; (case lpFZ9 => k_asm); (case lpNZ9 => k_asm); (case lpaZ9 => kcf_all); (case lpoZ9 => (simp only [LCg.Off3, and_true]; with_reducible assumption)); (case lpsZ9 => exact Or.inr ⟨_, by k_mem, rfl, _, rfl⟩))))
  exact True.intro

section
variable {prog : Program} {w : World} {A : Around} {E : Value → Shared → Prop} {s : Shared}
theorem min_75 {h₀ : Heap} {L : Addr} {m : Str → Option Value} {news : List (Addr × Obj)} {x d : Int} {t u : Tok} {Q : Value → Shared → Prop} (hh : A.handled = none) (F : Fr h₀ L s.heap m) (N : News h₀ L s.heap news) (h1 : x ≤ 75) (hd : 0 ≤ d)
    (h : ∀ (y : Int) (t' : Tok) h' tk, x ≤ y → y ≤ 75 → Fr h₀ L h' m → News h₀ L h' news → Q (.int y t') { s with heap := h', toks := tk }) : wpAny (model prog w) A (call (.builtin "min") [.int 75 t, .int (x + d) u]) Q E s :=
  min_two_N hh F N fun h' tk F' N' => h _ _ h' tk (by split <;> omega) (by split <;> omega) F' N'
theorem le_yes {a b : Int} {t u : Tok} {Q : Value → Shared → Prop} (hle : a ≤ b) (h : Q (.bool true) s) : wpAny (model prog w) A (compareOp .LtE (.int a t) (.int b u)) Q E s :=
  PyProof.Rows.le_int (by rw [decide_eq_true hle]; exact h)
theorem heard_heard {chs way z : Str} {x y : Int} (hcs : chs = cA ∨ chs = cL ∨ chs = cU) (hw : way = wQ ∨ way = wB) (h0 : 18 ≤ x) (h1 : 1 ≤ z.length) (hR : Roomy chs way z x) (hl : x ≤ y) : ((heardL chs way z y).length : Int) ≤ ((heardL chs way z x).length : Int) := by
  have := wider_le hcs hw h0 h1 hR hl; omega
end
theorem layL91 : True := by
  k_with "my call builtin:min" => ((k_here; (with_reducible rename Roomy _ _ _ _ => hR9); k_dflt (refine' min_75 ?mhZ9 ?mFZ9 ?mNZ9 ?m1Z9 ?mdZ9 ?_; (case mhZ9 => rfl); (case mFZ9 => k_asm); (case mNZ9 => k_asm); (case m1Z9 => omega); (case mdZ9 => omega)); intro y'q t'q h'q tk'q hy0'q hy1'q F'q N'q))
  k_with "my compareOp LtE int int" => ((k_here; (refine le_yes (heard_heard (by with_reducible assumption) (by with_reducible assumption) (by omega) (by omega) (by with_reducible assumption) (by with_reducible assumption)) ?_)))
  k_with "my call ref" => ((k_here; (with_reducible show wpAny _ _ (PySem.call (Value.ref 392) _) _ _ _); k_dflt (refine' (law_heard_at _ _ _ _ _ _ _ _ _ _ ?wcsZ9 ?wwZ9 ?wnZ9 ?wzZ9 ?w0Z9 ?w1Z9 ?wRZ9) _ _ _ _ _ _ _ _ _ _ _ _ _ _ _ _ _ _ _ _ ?kBZ9 ?kFZ9 ?kXZ9 ?kNZ9 ?kTZ9 ?kKZ9 ?kDZ9 ?kUZ9 ?_; (case kBZ9 => k_asm); (case kFZ9 => k_asm); (case kXZ9 => k_asm); (case kNZ9 => k_asm); (case wcsZ9 => with_reducible assumption); (case wwZ9 => with_reducible assumption); (case wzZ9 => with_reducible assumption); (case wnZ9 => omega); (case w0Z9 => omega); (case w1Z9 => omega); (case wRZ9 => exact roomy_up (by with_reducible assumption) (by omega)); (case kTZ9 => k_asm); (case kKZ9 => first | exact rfl | assumption); (case kDZ9 => ktr_room); (case kUZ9 => ktr_units)); intro l'q vs'q h'q tk'q hB'q F'q N'q l1'q; (try k_lt l1'q)))
  exact True.intro

/-- marks the law's own text: lia takes too much memory there -/
theorem lawHere : True := True.intro
theorem layLAW1 : True := by
  k_with "my call ref" => ((guard_hyp hmkLAW); (k_here; (with_reducible show wpAny _ _ (PySem.call (Value.ref 392) _) _ _ _); (with_reducible rename Best _ _ _ => hBest9); k_dflt (refine' (id : Hold _ → _) ?_)))
  k_with "my pyIter ref" => ((guard_hyp hmkLAW); (k_here; first | (k_dflt (refine' cpT_none (kss := heardL _ _ _ _) rfl ?nBZ9 ?n75Z9 ?nwZ9 ?nzZ9 ?nFZ9 ?nNZ9 ?nmZ9 ?_ ?_; (case nFZ9 => k_asm); (case nNZ9 => k_asm); (case nBZ9 => with_reducible assumption); (case n75Z9 => exact heard_wide (by with_reducible assumption) (by with_reducible assumption) (by omega) (by omega) (by with_reducible assumption)); (case nwZ9 => omega); (case nzZ9 => exact heard_small (by omega)); (case nmZ9 => k_mem))) | (k_dflt (refine' cpU_dec rfl ?nBZ9 ?nSZ9 ?nCZ9 ?nRZ9 ?ncsZ9 ?nwZ9 ?nw0Z9 ?nw1Z9 ?nnZ9 ?nFZ9 ?nNZ9 ?nmZ9 ?_ ?_; (case nFZ9 => k_asm); (case nNZ9 => k_asm); (case nBZ9 => with_reducible assumption); (case nSZ9 => with_reducible assumption); (case nCZ9 => with_reducible assumption); (case nRZ9 => with_reducible assumption); (case ncsZ9 => with_reducible assumption); (case nwZ9 => with_reducible assumption); (case nw0Z9 => omega); (case nw1Z9 => omega); (case nnZ9 => omega); (case nmZ9 => k_mem)))))
  k_with "my call builtin:str.join" => ((guard_hyp hmkLAW); ((with_reducible rename Roomy _ _ _ _ => hR9); k_dflt (refine' (id : Hold _ → _) ?_)))
  k_with "my CompEnd" => ((guard_hyp hmkLAW); ((fail_if_success (with_reducible rename Roomy _ _ _ _ => hR9)); k_dflt (refine' (id : Hold (LCg.CompEnd _ _ _ _ _ _ _ _ _ _ _ _ _ _) → LCg.CompEnd _ _ _ _ _ _ _ _ _ _ _ _ _ _) ?_)))
  k_with "my eval ListComp" => ((guard_hyp hmkLAW); (k_here; (fail_if_success (have h9q := o9q)); (with_reducible rename News _ _ _ _ => N9q); refine let_o N9q ?_; clear N9q; intro o9q N9q))
  exact True.intro

theorem cap1 {x y : Int} (h : x ≤ y + 1) (h2 : y ≤ 25) : x ≤ 1000 := Int.le_trans h (Int.le_trans (Int.add_le_add_right h2 1) (by decide))
theorem cap2 {x y z : Int} (h : x ≤ y + 1) (h1 : y ≤ z + 1) (h2 : z ≤ 25) : x ≤ 1000 := Int.le_trans h (Int.le_trans (Int.add_le_add_right (Int.le_trans h1 (Int.add_le_add_right h2 1)) 1) (by decide))
theorem capi {x : Int} {i : Nat} (h : x ≤ 1 + 2 * (i : Int)) (hi : i < 12) : x ≤ 25 := Int.le_trans h (Int.add_le_add_left (Int.mul_le_mul_of_nonneg_left (Int.ofNat_le.mpr (Nat.le_of_lt hi)) (by decide)) 1)
theorem cap0i {x : Int} {i : Nat} (h : x ≤ 1 + 2 * (i : Int)) (hi : i < 12) : x ≤ 1000 := Int.le_trans (capi h hi) (by decide)
theorem cap1i {x y : Int} {i : Nat} (h : x ≤ y + 1) (h1 : y ≤ 1 + 2 * (i : Int)) (hi : i < 12) : x ≤ 1000 := cap1 h (capi h1 hi)
theorem cap2i {x y z : Int} {i : Nat} (h : x ≤ y + 1) (h1 : y ≤ z + 1) (h2 : z ≤ 1 + 2 * (i : Int)) : x ≤ 1 + 2 * ((i : Int) + 1) := Int.le_trans h (Int.le_trans (Int.add_le_add_right (Int.le_trans h1 (Int.add_le_add_right h2 1)) 1) (by rw [Int.mul_add, Int.add_assoc, Int.add_assoc]; exact Int.le_refl _))
theorem nl1 {n : Nat} {d : Int} (e : n = (1 + d).toNat) (h0 : 0 ≤ d) : 1 ≤ n := by obtain ⟨m, rfl⟩ := Int.eq_ofNat_of_zero_le h0; rw [e]; exact Int.ofNat_le.mp (Int.le_add_of_nonneg_right h0)
theorem nl64 {n : Nat} {d : Int} (e : n = (1 + d).toNat) (h0 : d < 12) : n ≤ 64 := e ▸ Nat.le_trans (pen12 h0) (by decide)
theorem layLAW2 : True := by
  k_with "my omega" => ((guard_hyp hmkLAW); (k_whole; first
  | (with_reducible refine' Int.le_add_of_nonneg_right ?h9Z9; (case h9Z9 => with_reducible assumption))
  | (with_reducible refine' add_cap ?h9Z9 ?e9Z9; (case h9Z9 => with_reducible assumption); (case e9Z9 => decide))
  | (with_reducible refine' Int.le_trans (Int.le_add_of_nonneg_right ?h9Z9) ?e9Z9; (case e9Z9 => with_reducible assumption); (case h9Z9 => with_reducible assumption))
  | (with_reducible refine' Int.le_trans ?h9Z9 ?e9Z9; (case e9Z9 => with_reducible assumption); (case h9Z9 => with_reducible assumption))
  | (with_reducible refine' Int.le_trans (Int.le_trans ?h8Z9 ?e8Z9) ?e9Z9; (case e9Z9 => with_reducible assumption); (case e8Z9 => with_reducible assumption); (case h8Z9 => with_reducible assumption))
  | (with_reducible refine' cap1 ?h9Z9 ?e9Z9; (case h9Z9 => with_reducible assumption); (case e9Z9 => with_reducible assumption))
  | (with_reducible refine' cap2 ?h9Z9 ?h8Z9 ?e9Z9; (case h9Z9 => with_reducible assumption); (case h8Z9 => with_reducible assumption); (case e9Z9 => with_reducible assumption))
  | (with_reducible refine' cap0i ?h9Z9 ?e9Z9; (case h9Z9 => with_reducible assumption); (case e9Z9 => with_reducible assumption))
  | (with_reducible refine' cap1i ?h9Z9 ?h8Z9 ?e9Z9; (case h9Z9 => with_reducible assumption); (case h8Z9 => with_reducible assumption); (case e9Z9 => with_reducible assumption))
  | (with_reducible refine' cap2i ?h9Z9 ?h8Z9 ?e9Z9; (case h9Z9 => with_reducible assumption); (case h8Z9 => with_reducible assumption); (case e9Z9 => with_reducible assumption))
  | (with_reducible refine' nl1 ?h9Z9 ?e9Z9; (case h9Z9 => with_reducible assumption); (case e9Z9 => with_reducible assumption))
  | (with_reducible refine' nl64 ?h9Z9 ?e9Z9; (case h9Z9 => with_reducible assumption); (case e9Z9 => with_reducible assumption))
  | fail "none"))
  exact True.intro

abbrev sgOf {z : Str} (_ : SgZ z) : Str := z
theorem law_holds : PySem.Challenge.rw_nz0314_01.Holds := hd (by
  w_top off
  k_go0
  (try (refine let_AE ?_; intro A9q e9q)); (try ((with_reducible rename Fr _ _ _ _ => F9q); refine let_m F9q ?_; clear F9q; intro m9q F'))
  have hmkLAW : OwnW := True.intro
  have hMC : MyComp := True.intro
  have hmkLAW1 : OwnW := True.intro
  k_with "pyIter ref" => (guard_hyp hmkLAW1; k_here; k_dflt (refine' cpU_pens ?ch ?cR ?c0 ?c1 ?cF ?cN ?cs0 ?cs1 ?cg0 ?_ ?_; (case ch => rfl); (case cR => with_reducible assumption); (case cF => k_asm); (case cN => k_asm); (case c0 => omega); (case c1 => omega); (case cs0 => omega); (case cs1 => omega); (case cg0 => omega)))
  (try k_fold)
  k_steps
  · intro i k t sp gr t1 t2 nn zs ys I oI C oC D m2 h tk E' hi hs0 hs1 hg hS hz hZ hC hx F2 N2 off ne
    simp only [LCg.Off3, and_true] at off
    (try k_fold)
    k_steps
    all_goals
      show LCg.CompEnd _ _ _ _ _ _ _ _ _ _ _ _ _ _
      rename SgZ _ => hz9
      refine' LCg.CompEnd.intro ?lpF ?lpN (_) ?lpa ?lpo ?lps ⟨(_, _, _, _, _, zs ++ [sgOf hz9]), rfl, ?_⟩
      (case lpF => k_asm)
      (case lpN => k_asm)
      (case lpa => kcf_all)
      (case lpo => first | assumption | (simp only [LCg.Off3, and_true]; done) | (simp only [LCg.Off3, and_true]; assumption))
      (case lps => first | trivial | assumption | lcg_src)
      exact penJ_step hS hz hZ (by with_reducible assumption) (by omega) (by omega) (by omega)
  · intro g sp gr t1 t2 nn zs ys hS hz hZ hs0 hs1 hg
    have hmkLAW2 : OwnW := True.intro
    k_with "pyIter str" => (guard_hyp hmkLAW2; k_here; k_dflt (refine' cpU_rows ?rh ?rl ?rC ?rH ?rF ?rN ?_ ?_; (case rh => rfl); (case rl => omega); (case rC => with_reducible assumption); (case rH => with_reducible assumption); (case rF => k_asm); (case rN => k_asm)))
    (try k_fold)
    k_steps
    · intro i k t ys I oI C oC D m2 h tk E' hi ho hl1 hJ hC hx F2 N2 off ne
      simp only [LCg.Off3, and_true] at off
      (try k_fold)
      k_steps
      show LCg.CompEnd _ _ _ _ _ _ _ _ _ _ _ _ _ _
      refine' LCg.CompEnd.intro ?lpF ?lpN _ ?lpa ?lpo ?lps ⟨(), rfl, ?_⟩
      (case lpF => k_asm)
      (case lpN => k_asm)
      (case lpa => kcf_all)
      (case lpo => first | assumption | (simp only [LCg.Off3, and_true]; done) | (simp only [LCg.Off3, and_true]; assumption))
      (case lps => first | trivial | assumption | lcg_src | exact (Or.inr ⟨_, List.mem_cons_self, rfl, _, rfl⟩))
      exact rows_step hJ hi (by assumption)
    · intro g ys hJ hl9
      (try k_fold)
      k_steps
      rename Best _ _ _ => hBest
      rename _ ∧ _ = Value.none ∨ _ => hV
      rcases few_cases (by with_reducible assumption) (by with_reducible assumption) (by omega) (by omega) hBest hV with ⟨hR, t9, e9⟩ | ⟨hX, e9⟩
      all_goals
        subst e9
        clear hV hBest
      · show wpAny _ _ _ _ _ _
        (try k_fold)
        k_steps
        · intro b t ks ys I oI C oC D m2 h tk E' hb hle h75 hJ hC hx F2 N2 off ne
          simp only [LCg.Off3, and_true] at off
          (try k_fold)
          k_steps
          all_goals exact hJ
        · intro g ys hJ
          (try k_fold)
          k_steps
          · intro i b t p ys I oI C oC D m2 h tk E' hp hb h75 hl hSg hJ hC hx F2 N2 off ne
            simp only [LCg.Off3, and_true] at off
            (try k_fold)
            k_steps
            all_goals exact dec_step hp hJ
          · intro g ys hJ
            (try k_fold)
            k_steps
            show wpAny _ _ _ _ _ _
            refine' dec_join ?jl ?ji ?jS ?jn ?_
            (case jl => is_list)
            (case ji => with_reducible assumption)
            (case jS => with_reducible assumption)
            (case jn => omega)
            intro t9 k9
            (try k_fold)
            k_steps
      · show wpAny _ _ _ _ _ _
        k_steps)

end Mine

theorem PySem.Challenge.cw_nz0314_01_holds : PySem.Challenge.rw_nz0314_01.Holds :=
  Mine.law_holds
